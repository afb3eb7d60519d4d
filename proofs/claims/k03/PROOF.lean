import PyProof.Rows.All
import Wide.All
import OpenK.AllK
import Wide.FinOn
import HandS.ForMost
import HandS.ForExc
import HandS.Wide
import HandS.Walk
import HandS.Flow
import HandS.TupAny
import HandS.Deep
import HandS.Iter
import HandS.NoneIn
import HandS.Style
import HandS.CallSlots
import HandS.Property
import HandS.MakeKw
import HandS.ExcSuper
import HandS.Small
import HandS.More
import HandS.SortInts
import HandS.Rev
import HandS.Codes
import HandS.Base
import HandS.WordsExc
import HandS.Words
import HandS.Zip
import HandS.Dict
import HandS.Defaults
import KE.KItemsList
import HandS.ListItems
import KE.GoesZip
import KE.GoesMore
import KE.GoesEnum
import KE.KExcSuper
import KE.KSuper
import HandS.ExcInit
import HandS.IsInst
import HandS.ExcField
import KE.KExcIs
import PyProof.StrOps2
import HandS.ExcIs
import HandS.SlotsOwn
import PyProof.InstNe
import KE.IntTextLaws
import KE.SortData
import PySem.Challenge.RW_blockbooks_k03_books_refused
set_option Elab.async false
set_option linter.all false
set_option maxRecDepth 100000
set_option maxHeartbeats 4000000
namespace BB
open PySem PySem.Spec PyProof.Rows L2

/-! ### data without a heap -/
inductive D where
  | non | bl (b : Bool) | int (i : Int) | str (x : Str)
  | lst (xs : List D) | tup (xs : List D)
  | ins (c : Addr) (fs : List (Str × D))
  | scr (xs : List D)
  | dic (kvs : List (Key × D))
  | xcp (a dx c : Addr) (d : D)
  | adr (a : Addr)

mutual
/-- the value v is the data d, as F tells it -/
inductive Dat (K : PySem.W.Frag) (F : Hp) : V → D → Prop
  | non : Dat K F .non .non
  | bl (b : Bool) : Dat K F (.bl b) (.bl b)
  | int (i : Int) : Dat K F (.int i) (.int i)
  | str (x : Str) : Dat K F (.str x) (.str x)
  | lst {a : Addr} {vs : List V} {xs : List D} : F a = some (.lst vs) → DatL K F vs xs → Dat K F (.ref a) (.lst xs)
  | tup {a : Addr} {vs : List V} {xs : List D} : SqT K F a vs → DatL K F vs xs → Dat K F (.ref a) (.tup xs)
  | ins {a c dx : Addr} {vs : List (Str × V)} {fs : List (Str × D)} : F a = some (.ins c dx vs) → DatF K F vs fs → Dat K F (.ref a) (.ins c fs)
  | scr {a : Addr} {vs : List V} {xs : List D} : SqL K F a vs → DatL K F vs xs → Dat K F (.ref a) (.scr xs)
  | dic {a : Addr} {vs : List (Key × V)} {xs : List (Key × D)} : F a = some (.dK vs) → DatK K F vs xs → Dat K F (.ref a) (.dic xs)
  | xcp {a c dx : Addr} {v : V} {d : D} : F dx = some (.xd [(("value" : Str), v)]) → Dat K F v d → Dat K F (.ref a) (.xcp a dx c d)
  | adr (a : Addr) : Dat K F (.ref a) (.adr a)
inductive DatL (K : PySem.W.Frag) (F : Hp) : List V → List D → Prop
  | nil : DatL K F [] []
  | cons {v : V} {vs : List V} {d : D} {ds : List D} : Dat K F v d → DatL K F vs ds → DatL K F (v :: vs) (d :: ds)
inductive DatK (K : PySem.W.Frag) (F : Hp) : List (Key × V) → List (Key × D) → Prop
  | nil : DatK K F [] []
  | cons {f : Key} {v : V} {vs : List (Key × V)} {d : D} {ds : List (Key × D)} : Dat K F v d → DatK K F vs ds → DatK K F ((f, v) :: vs) ((f, d) :: ds)
inductive DatF (K : PySem.W.Frag) (F : Hp) : List (Str × V) → List (Str × D) → Prop
  | nil : DatF K F [] []
  | cons {f : Str} {v : V} {vs : List (Str × V)} {d : D} {ds : List (Str × D)} : Dat K F v d → DatF K F vs ds → DatF K F ((f, v) :: vs) ((f, d) :: ds)
end

theorem same_sqT {K : PySem.W.Frag} {F F' : Hp} (s : Same F F') {a : Addr} {vs : List V} (h : SqT K F a vs) : SqT K F' a vs := by
  rcases h with (h | ⟨o, h⟩) | h
  · exact .inl (.inl (s _ _ h))
  · exact .inl (.inr ⟨o, s _ _ h⟩)
  · exact .inr h
section
variable {K : PySem.W.Frag} {F F' : Hp}
mutual
theorem Dat.mono (s : Same F F') : ∀ {v : V} {d : D}, Dat K F v d → Dat K F' v d
  | _, _, .non => .non
  | _, _, .bl b => .bl b
  | _, _, .int i => .int i
  | _, _, .str x => .str x
  | _, _, .lst h t => .lst (s _ _ h) (DatL.mono s t)
  | _, _, .tup h t => .tup (same_sqT s h) (DatL.mono s t)
  | _, _, .ins h t => .ins (s _ _ h) (DatF.mono s t)
  | _, _, .scr h t => .scr (s.seq h) (DatL.mono s t)
  | _, _, .dic h t => .dic (s _ _ h) (DatK.mono s t)
  | _, _, .xcp h t => .xcp (s _ _ h) (Dat.mono s t)
  | _, _, .adr a => .adr a
theorem DatL.mono (s : Same F F') : ∀ {v : List V} {d : List D}, DatL K F v d → DatL K F' v d
  | _, _, .nil => .nil
  | _, _, .cons h t => .cons (Dat.mono s h) (DatL.mono s t)
theorem DatK.mono (s : Same F F') : ∀ {v : List (Key × V)} {d : List (Key × D)}, DatK K F v d → DatK K F' v d
  | _, _, .nil => .nil
  | _, _, .cons h t => .cons (Dat.mono s h) (DatK.mono s t)
theorem DatF.mono (s : Same F F') : ∀ {v : List (Str × V)} {d : List (Str × D)}, DatF K F v d → DatF K F' v d
  | _, _, .nil => .nil
  | _, _, .cons h t => .cons (Dat.mono s h) (DatF.mono s t)
end
theorem DatL.length : ∀ {vs : List V} {ds : List D}, DatL K F vs ds → vs.length = ds.length
  | _, _, .nil => rfl
  | _, _, .cons _ t => by rw [List.length_cons, List.length_cons, t.length]
theorem DatL.get : ∀ {vs : List V} {ds : List D} {i : Nat} {d : D}, DatL K F vs ds → ds[i]? = some d → ∃ v, vs[i]? = some v ∧ Dat K F v d
  | _, _, _, _, .nil, e => by simp at e
  | _, _, 0, _, .cons h _, e => by simp at e; subst e; exact ⟨_, rfl, h⟩
  | _, _, i + 1, d, .cons _ t, e => by
    obtain ⟨v, h1, h2⟩ := DatL.get (i := i) (d := d) t (by simpa using e)
    exact ⟨v, by simpa using h1, h2⟩
theorem DatL.getv : ∀ {vs : List V} {ds : List D} {i : Nat} {v : V}, DatL K F vs ds → vs[i]? = some v → ∃ d, ds[i]? = some d ∧ Dat K F v d
  | _, _, _, _, .nil, e => by simp at e
  | _, _, 0, _, .cons h _, e => by simp at e; subst e; exact ⟨_, rfl, h⟩
  | _, _, i + 1, v, .cons _ t, e => by
    obtain ⟨d, h1, h2⟩ := DatL.getv (i := i) (v := v) t (by simpa using e)
    exact ⟨d, by simpa using h1, h2⟩
theorem DatL.append : ∀ {vs ws : List V} {ds es : List D}, DatL K F vs ds → DatL K F ws es → DatL K F (vs ++ ws) (ds ++ es)
  | _, _, _, _, .nil, s => s
  | _, _, _, _, .cons r t, s => .cons r (DatL.append t s)
theorem DatL.set : ∀ {vs : List V} {ds : List D} {v : V} {d : D} (i : Nat), DatL K F vs ds → Dat K F v d → DatL K F (vs.set i v) (ds.set i d)
  | _, _, _, _, _, .nil, _ => .nil
  | _, _, _, _, 0, .cons _ t, h => .cons h t
  | _, _, _, _, i + 1, .cons q t, h => .cons q (DatL.set i t h)
theorem DatL.take : ∀ {vs : List V} {ds : List D} (n : Nat), DatL K F vs ds → DatL K F (vs.take n) (ds.take n)
  | _, _, 0, _ => .nil
  | _, _, _ + 1, .nil => .nil
  | _, _, n + 1, .cons r t => .cons r (DatL.take n t)
theorem DatL.drop : ∀ {vs : List V} {ds : List D} (n : Nat), DatL K F vs ds → DatL K F (vs.drop n) (ds.drop n)
  | _, _, 0, r => r
  | _, _, _ + 1, .nil => .nil
  | _, _, n + 1, .cons _ t => DatL.drop n t
theorem DatL.reverse : ∀ {vs : List V} {ds : List D}, DatL K F vs ds → DatL K F vs.reverse ds.reverse
  | _, _, .nil => .nil
  | _, _, .cons r t => by rw [List.reverse_cons, List.reverse_cons]; exact (DatL.reverse t).append (.cons r .nil)
theorem DatL.rep {v : V} {d : D} (h : Dat K F v d) : ∀ n, DatL K F (List.replicate n v) (List.replicate n d)
  | 0 => .nil
  | n + 1 => .cons h (DatL.rep h n)
theorem DatF.get : ∀ {vs : List (Str × V)} {ds : List (Str × D)} {f : Str} {d : D}, DatF K F vs ds → ds.lookup f = some d → ∃ v, vs.lookup f = some v ∧ Dat K F v d
  | _, _, _, _, .nil, e => by simp at e
  | _, _, f, d, .cons (f := g) h t, e => by
    by_cases q : f = g
    · subst q
      rw [List.lookup_cons_self] at e
      obtain rfl := Option.some.inj e
      exact ⟨_, List.lookup_cons_self, h⟩
    · have q' : (f == g) = false := by simpa using q
      rw [List.lookup_cons, q'] at e
      obtain ⟨v, h1, h2⟩ := DatF.get t e
      exact ⟨v, by rw [List.lookup_cons, q']; exact h1, h2⟩
theorem DatF.none : ∀ {vs : List (Str × V)} {ds : List (Str × D)} {f : Str}, DatF K F vs ds → ds.lookup f = none → vs.lookup f = none
  | _, _, _, .nil, e => rfl
  | _, _, f, .cons (f := g) h t, e => by
    by_cases q : f = g
    · subst q
      rw [List.lookup_cons_self] at e
      cases e
    · have q' : (f == g) = false := by simpa using q
      rw [List.lookup_cons, q'] at e ⊢
      exact DatF.none t e
end

/-! ### slots -/
inductive SV where
  | no
  | fz (d : D)
  | ow (xs : List D)
  | oi (c : Addr) (fs : List (Str × D))
  | od (kvs : List (Key × D))
  | tr (s : SV) (g : List (Addr × List D))
def SV.own : SV → Bool
  | .ow _ => true
  | .oi _ _ => true
  | .od _ => true
  | _ => false
/-- may be lent: has an address of its own -/
def SV.lnd : SV → Bool
  | .ow _ => true
  | .oi _ _ => true
  | .od _ => true
  | .tr s _ => s.lnd
  | _ => false
def SV.rd : SV → Option D
  | .no => none
  | .fz d => some d
  | .ow xs => some (.lst xs)
  | .oi c fs => some (.ins c fs)
  | .od kvs => some (.dic kvs)
  | .tr s _ => s.rd
/-- the addresses that a slot owns: its value's, and (tr) those of lists within -/
def SV.at : SV → Option (Option V) → Addr → Prop
  | .no, _, _ => False
  | .fz _, _, _ => False
  | .ow _, x, a => x = some (some (.ref a))
  | .oi _ _, x, a => x = some (some (.ref a))
  | .od _, x, a => x = some (some (.ref a))
  | .tr s g, x, a => s.at x a ∨ a ∈ g.map (·.1)
theorem SV.at_own {s : SV} (h : s.own = true) {x : Option (Option V)} {a : Addr} : s.at x a ↔ x = some (some (.ref a)) := by cases s <;> first | exact Iff.rfl | cases h
/-- what stands in an owned cell -/
def OC (K : PySem.W.Frag) (F : Hp) : SV → HO → Prop
  | .ow xs, .lst vs => DatL K F vs xs
  | .oi c fs, .ins c' _ vs => c' = c ∧ DatF K F vs fs
  | .od kvs, .dK vs => DatK K F vs kvs
  | _, _ => False
theorem OC.mono {K : PySem.W.Frag} {F F' : Hp} (s : Same F F') {x : SV} {o : HO} (h : OC K F x o) : OC K F' x o := by
  cases x <;> cases o <;> first | exact h | exact DatL.mono s h | exact ⟨h.1, DatF.mono s h.2⟩ | exact DatK.mono s h
/-- what an owned cell may be -/
def OCl : HO → Prop
  | .lst _ => True
  | .ins _ _ _ => True
  | .dK _ => True
  | _ => False
theorem OC.cl {K : PySem.W.Frag} {F : Hp} {x : SV} {o : HO} (h : OC K F x o) : OCl o := by
  cases x <;> cases o <;> first | exact h.elim | trivial
abbrev DE := List SV
/-- lists within that a slot owns -/
def GsOk (K : PySem.W.Frag) (F G H : Hp) (g : List (Addr × List D)) : Prop := (g.map (·.1)).Nodup ∧ ∀ p, p ∈ g → ∃ vs, H p.1 = some (.lst vs) ∧ F p.1 = none ∧ G p.1 = none ∧ DatL K F vs p.2
def OwOk (K : PySem.W.Frag) (F G H : Hp) (s : SV) (x : Option (Option V)) : Prop := ∃ a o, x = some (some (.ref a)) ∧ H a = some o ∧ F a = none ∧ G a = none ∧ OC K F s o
def SlOk (K : PySem.W.Frag) (F G H : Hp) : SV → Option (Option V) → Prop
  | .no, _ => True
  | .fz d, x => ∃ v, x = some (some v) ∧ Dat K F v d
  | .ow xs, x => OwOk K F G H (.ow xs) x
  | .oi c fs, x => OwOk K F G H (.oi c fs) x
  | .od kvs, x => OwOk K F G H (.od kvs) x
  | .tr s g, x => SlOk K F G H s x ∧ GsOk K F G H g ∧ ∀ a, s.at x a → a ∉ g.map (·.1)
def Owns (ρ : DE) (σ : L2.St) (i : Nat) (a : Addr) : Prop := ∃ s, ρ[i]? = some s ∧ s.at (σ[i]?) a
/-- what is frozen stands in the heap; a dict perhaps so that it is walked -/
def SF (F H : Hp) : Prop := ∀ a o, F a = some o → H a = some o ∨ ∃ x vs, o = .dK vs ∧ H a = some (.frz x o)
/-- nothing of it is foreign, but dicts that are walked -/
def FG (F G : Hp) : Prop := ∀ a o, F a = some o → G a = none ∨ ∃ x vs, o = .dK vs ∧ G a = some (.frz x o)
theorem SF.refl (F : Hp) : SF F F := fun _ _ e => .inl e
theorem SF.of {F H : Hp} (s : Same F H) : SF F H := fun _ _ e => .inl (s _ _ e)
theorem SF.trans {F H H' : Hp} (h : SF F H) (s : Same H H') : SF F H' := fun a o e => by
  rcases h a o e with z | ⟨x, vs, z1, z2⟩
  · exact .inl (s _ _ z)
  · exact .inr ⟨x, vs, z1, s _ _ z2⟩
theorem SF.sub {F F' H : Hp} (s : Same F F') (h : SF F' H) : SF F H := fun a o e => h a o (s _ _ e)
theorem SF.free {F H : Hp} (h : SF F H) {a : Addr} (hp : H a = none) : F a = none := by
  cases e : F a with
  | none => rfl
  | some o =>
    rcases h a o e with z | ⟨x, vs, _, z⟩
    · rw [hp] at z; cases z
    · rw [hp] at z; cases z
theorem SF.at {F H : Hp} (h : SF F H) {a : Addr} {o : HO} (e : F a = some o) (n : ∀ vs, o ≠ .dK vs) : H a = some o := by
  rcases h a o e with z | ⟨x, vs, z, _⟩
  · exact z
  · exact absurd z (n vs)
theorem SF.lst {F H : Hp} (h : SF F H) {a : Addr} {vs : List V} (e : F a = some (.lst vs)) : H a = some (.lst vs) := h.at e fun _ z => by cases z
theorem SF.ins {F H : Hp} (h : SF F H) {a c dx : Addr} {vs : List (Str × V)} (e : F a = some (.ins c dx vs)) : H a = some (.ins c dx vs) := h.at e fun _ z => by cases z
theorem SF.dic {F H : Hp} (h : SF F H) {a : Addr} {vs : List (Key × V)} (e : F a = some (.dK vs)) : Rd H a (.dK vs) := by
  rcases h a _ e with z | ⟨x, _, _, z⟩
  · exact .inl z
  · exact .inr ⟨x, z⟩
theorem SF.rd {F H : Hp} (h : SF F H) {a : Addr} {u : HO} (n : ∀ vs, u ≠ .dK vs) (r : Rd F a u) : Rd H a u := by
  rcases r with e | ⟨o, e⟩
  · exact .inl (h.at e n)
  · exact .inr ⟨o, h.at e fun _ z => by cases z⟩
theorem SF.seq {K : PySem.W.Frag} {F H : Hp} (h : SF F H) {a : Addr} {xs : List V} (r : SqL K F a xs) : SqL K H a xs := by
  rcases r with r | r
  · exact .inl (h.rd (fun _ z => by cases z) r)
  · exact .inr r
theorem SF.sqT {K : PySem.W.Frag} {F H : Hp} (h : SF F H) {a : Addr} {xs : List V} (r : SqT K F a xs) : SqT K H a xs := by
  rcases r with r | r
  · exact .inl (h.rd (fun _ z => by cases z) r)
  · exact .inr r
theorem FG.less {F G G' : Hp} (s : Same G G') (h : FG F G') : FG F G := fun a o e => by
  cases q : G a with
  | none => exact .inl rfl
  | some u =>
    rcases h a o e with z | ⟨x, vs, z1, z2⟩
    · rw [s _ _ q] at z; cases z
    · exact .inr ⟨x, vs, z1, by rw [← z2, s _ _ q]⟩
/-- frozen F, foreign G, slots ρ over the heap H and the values σ; fx: slots that keep their address -/
structure Rep (K : PySem.W.Frag) (F G H : Hp) (fx : List (Nat × Addr)) (ρ : DE) (σ : L2.St) : Prop where
  fh : SF F H
  gh : Same G H
  fg : FG F G
  len : ρ.length = σ.length
  sl : ∀ (i : Nat) (s : SV), ρ[i]? = some s → SlOk K F G H s (σ[i]?)
  nd : ∀ (i j : Nat) (a : Addr), Owns ρ σ i a → Owns ρ σ j a → i = j
  fix : ∀ p, p ∈ fx → σ[p.1]? = some (some (.ref p.2))
/-- a value read now -/
inductive Top (K : PySem.W.Frag) (F H : Hp) : V → D → Prop
  | dat {v d} : Dat K F v d → Top K F H v d
  | lst {a vs xs} : H a = some (.lst vs) → DatL K F vs xs → Top K F H (.ref a) (.lst xs)
  | ins {a c dx vs fs} : H a = some (.ins c dx vs) → DatF K F vs fs → Top K F H (.ref a) (.ins c fs)
  | dic {a vs kvs} : Rd H a (.dK vs) → DatK K F vs kvs → Top K F H (.ref a) (.dic kvs)
inductive RV where
  | v (d : D)
  | sl (i : Nat)
  | o (s : SV)
  | t (s : SV)
  | gr (j : Nat) (a : Addr)
def RV.at (r : RV) (ρ : DE) : Option D := match r with
  | .v d => some d
  | .sl i => match ρ[i]? with
    | some s => s.rd
    | none => none
  | .o s => s.rd
  | .t _ => none
  | .gr j a => match ρ[j]? with
    | some (.tr _ g) => (g.lookup a).map D.lst
    | _ => none
def RvOk (K : PySem.W.Frag) (F G H : Hp) (ρ : DE) (σ : L2.St) (r : RV) (v : V) : Prop := match r with
  | .v d => Dat K F v d
  | .sl i => σ[i]? = some (some v)
  | .o s => s.own = true ∧ ∃ a o, v = .ref a ∧ H a = some o ∧ F a = none ∧ G a = none ∧ OC K F s o ∧ ∀ i, ¬ Owns ρ σ i a
  | .gr _ a => v = .ref a
  | .t s => SlOk K F G H s (some (some v)) ∧ ∀ a, s.at (some (some v)) a → ∀ i, ¬ Owns ρ σ i a

section
variable {K : PySem.W.Frag} {F F' G H H' : Hp} {fx : List (Nat × Addr)} {ρ ρ' : DE} {σ : L2.St} {i : Nat} {s : SV} {a : Addr} {o : HO} {v : V} {d : D}
theorem SlOk.own (h : SlOk K F G H s x) (hs : s.own = true) : ∃ a o, x = some (some (.ref a)) ∧ H a = some o ∧ F a = none ∧ G a = none ∧ OC K F s o := by
  cases s <;> first | exact h | cases hs
theorem SlOk.lnd : ∀ {s : SV} {x : Option (Option V)}, SlOk K F G H s x → s.lnd = true → ∃ a, x = some (some (.ref a))
  | .no, _, _, e => nomatch e
  | .fz _, _, _, e => nomatch e
  | .ow _, _, h, _ => by obtain ⟨a, _, e, _⟩ := h; exact ⟨a, e⟩
  | .oi _ _, _, h, _ => by obtain ⟨a, _, e, _⟩ := h; exact ⟨a, e⟩
  | .od _, _, h, _ => by obtain ⟨a, _, e, _⟩ := h; exact ⟨a, e⟩
  | .tr s _, _, h, e => SlOk.lnd (s := s) h.1 e
theorem SlOk.of_own (hs : s.own = true) (h : ∃ a o, x = some (some (.ref a)) ∧ H a = some o ∧ F a = none ∧ G a = none ∧ OC K F s o) : SlOk K F G H s x := by
  cases s <;> first | exact h | cases hs
theorem Owns.of (e : ρ[i]? = some s) (hs : s.own = true) (hv : σ[i]? = some (some (.ref a))) : Owns ρ σ i a := ⟨s, e, (s.at_own hs).mpr hv⟩
theorem OwOk.cell {x : Option (Option V)} (h : OwOk K F G H s x) (ha : x = some (some (.ref a))) : ∃ o, H a = some o ∧ F a = none ∧ G a = none ∧ OCl o := by
  obtain ⟨b, o, h1, h2, h3, h4, h5⟩ := h
  rw [ha] at h1
  cases h1
  exact ⟨o, h2, h3, h4, h5.cl⟩
/-- an owned address -/
theorem SlOk.cell {x : Option (Option V)} : ∀ {s : SV}, SlOk K F G H s x → s.at x a → ∃ o, H a = some o ∧ F a = none ∧ G a = none ∧ OCl o
  | .no, _, h => h.elim
  | .fz _, _, h => h.elim
  | .ow _, k, h => OwOk.cell k h
  | .oi _ _, k, h => OwOk.cell k h
  | .od _, k, h => OwOk.cell k h
  | .tr s g, k, h => by
    rcases h with h | h
    · exact SlOk.cell k.1 h
    · obtain ⟨p, hp, rfl⟩ := List.mem_map.mp h
      obtain ⟨vs, h1, h2, h3, _⟩ := k.2.1.2 p hp
      exact ⟨_, h1, h2, h3, trivial⟩
theorem OwOk.move {F' G' H' : Hp} {x : Option (Option V)} (h : OwOk K F G H s x) (sm : Same F F') (k : ∀ a, x = some (some (.ref a)) → F' a = none ∧ G' a = none ∧ H' a = H a) : OwOk K F' G' H' s x := by
  obtain ⟨b, o, h1, h2, h3, h4, h5⟩ := h
  obtain ⟨k1, k2, k3⟩ := k b h1
  exact ⟨b, o, h1, by rw [k3]; exact h2, k1, k2, h5.mono sm⟩
/-- a slot stays, where its own cells do -/
theorem SlOk.move {F' G' H' : Hp} {x : Option (Option V)} (sm : Same F F') : ∀ {s : SV}, SlOk K F G H s x → (∀ a, s.at x a → F' a = none ∧ G' a = none ∧ H' a = H a) → SlOk K F' G' H' s x
  | .no, _, _ => trivial
  | .fz _, h, _ => by obtain ⟨v, h1, h2⟩ := h; exact ⟨v, h1, h2.mono sm⟩
  | .ow _, h, k => OwOk.move h sm k
  | .oi _ _, h, k => OwOk.move h sm k
  | .od _, h, k => OwOk.move h sm k
  | .tr s g, h, k => by
    refine ⟨SlOk.move sm h.1 fun a ha => k a (.inl ha), ⟨h.2.1.1, fun p hp => ?_⟩, h.2.2⟩
    obtain ⟨vs, h1, h2, h3, h4⟩ := h.2.1.2 p hp
    obtain ⟨k1, k2, k3⟩ := k p.1 (.inr (List.mem_map_of_mem hp))
    exact ⟨vs, by rw [k3]; exact h1, k1, k2, h4.mono sm⟩
/-- the heap grows -/
theorem Rep.ext (R : Rep K F G H fx ρ σ) (s : Same H H') : Rep K F G H' fx ρ σ :=
  ⟨R.fh.trans s, R.gh.trans s, R.fg, R.len, fun i x e => (R.sl i x e).move (Same.refl F) fun a ha => by
    obtain ⟨o, h1, h2, h3, _⟩ := (R.sl i x e).cell ha
    exact ⟨h2, h3, by rw [h1]; exact s _ _ h1⟩, R.nd, R.fix⟩
theorem Rep.ownH (R : Rep K F G H fx ρ σ) (h : Owns ρ σ i a) : ∃ o, H a = some o ∧ F a = none ∧ G a = none ∧ OCl o := by
  obtain ⟨s, e, hx⟩ := h
  exact (R.sl i s e).cell hx
/-- something at an address that nobody knows joins the frozen -/
theorem Rep.frz (R : Rep K F G H fx ρ σ) (hF : F a = none) (hG : G a = none) (hH : H a = some o) (hn : ∀ i, ¬ Owns ρ σ i a) : Same F (upd F a o) ∧ Rep K (upd F a o) G H fx ρ σ := by
  have sm : Same F (upd F a o) := fun b u e => by rw [upd_ne (ne_of_none e hF)]; exact e
  refine ⟨sm, fun b u e => ?_, R.gh, fun b u e => ?_, R.len, fun i x e => (R.sl i x e).move sm fun b hb => ?_, R.nd, R.fix⟩
  · by_cases hb : b = a
    · subst hb; rw [upd_same] at e; cases e; exact .inl hH
    · rw [upd_ne hb] at e; exact R.fh _ _ e
  · by_cases hb : b = a
    · subst hb; exact .inl hG
    · rw [upd_ne hb] at e; exact R.fg _ _ e
  · obtain ⟨u, h1, h2, h3, _⟩ := (R.sl i x e).cell hb
    have ne : b ≠ a := fun q => hn i ⟨x, e, by rw [← q]; exact hb⟩
    exact ⟨by rw [upd_ne ne]; exact h2, h3, rfl⟩
/-- a new object -/
theorem Rep.new (R : Rep K F G H fx ρ σ) (hp : H a = none) : Rep K F G (upd H a o) fx ρ σ ∧ F a = none ∧ G a = none ∧ ∀ i, ¬ Owns ρ σ i a := by
  have sm : Same H (upd H a o) := fun b u e => by rw [upd_ne (ne_of_none e hp)]; exact e
  refine ⟨R.ext sm, R.fh.free hp, R.gh.free hp, fun i h => ?_⟩
  obtain ⟨o, h2, _⟩ := R.ownH h
  rw [hp] at h2; cases h2
/-- frozen at once -/
theorem Rep.newF (R : Rep K F G H fx ρ σ) (hp : H a = none) : Same F (upd F a o) ∧ Rep K (upd F a o) G (upd H a o) fx ρ σ := by
  obtain ⟨R1, h1, h2, h3⟩ := R.new (o := o) hp
  exact R1.frz h1 h2 upd_same h3
theorem lookup_mem {β : Type} {a : Addr} {x : β} : ∀ {l : List (Addr × β)}, l.lookup a = some x → (a, x) ∈ l
  | [], h => by cases h
  | (b, y) :: l, h => by
    rw [List.lookup_cons] at h
    by_cases q : a = b
    · subst q
      rw [beq_self_eq_true] at h
      cases h
      exact List.mem_cons_self
    · rw [show (a == b) = false by simpa using q] at h
      exact List.mem_cons_of_mem _ (lookup_mem h)
/-- what stands in a slot reads as now -/
theorem SlOk.top : ∀ {s : SV}, SlOk K F G H s (some (some v)) → s.rd = some d → Top K F H v d
  | .no, _, e => nomatch e
  | .fz _, h, e => by
    obtain ⟨u, q1, q2⟩ := h
    cases q1
    cases e
    exact .dat q2
  | .ow xs, h, e => by
    obtain ⟨a, o, q1, q2, q3, q4, q5⟩ := h
    cases q1
    cases o <;> first | exact q5.elim | skip
    cases e
    exact .lst q2 q5
  | .oi c fs, h, e => by
    obtain ⟨a, o, q1, q2, q3, q4, q5⟩ := h
    cases q1
    cases o <;> first | exact q5.elim | skip
    obtain ⟨rfl, q5⟩ := q5
    cases e
    exact .ins q2 q5
  | .od kvs, h, e => by
    obtain ⟨a, o, q1, q2, q3, q4, q5⟩ := h
    cases q1
    cases o <;> first | exact q5.elim | skip
    cases e
    exact .dic (.inl q2) q5
  | .tr s _, h, e => SlOk.top (s := s) h.1 e
/-- what a result reads as now -/
theorem RvOk.top {r : RV} (R : Rep K F G H fx ρ σ) (h : RvOk K F G H ρ σ r v) (e : r.at ρ = some d) : Top K F H v d := by
  cases r with
  | v d' => obtain rfl : d' = d := Option.some.inj e; exact .dat h
  | sl i =>
    have h1 : σ[i]? = some (some v) := h
    cases h2 : ρ[i]? with
    | none =>
      simp only [RV.at, h2] at e
      cases e
    | some s =>
    have hs := R.sl i s h2
    simp only [RV.at, h2] at e
    rw [h1] at hs
    exact hs.top e
  | o s =>
    obtain ⟨h3, a, o, rfl, q2, q3, q4, q5, _⟩ := h
    cases s with
    | no => cases h3
    | fz _ => cases h3
    | ow xs =>
      cases o <;> first | exact q5.elim | skip
      cases e
      exact .lst q2 q5
    | oi c fs =>
      cases o <;> first | exact q5.elim | skip
      obtain ⟨rfl, q5⟩ := q5
      cases e
      exact .ins q2 q5
    | od kvs =>
      cases o <;> first | exact q5.elim | skip
      cases e
      exact .dic (.inl q2) q5
    | tr _ _ => cases h3
  | t s => cases e
  | gr j a =>
    have h : v = .ref a := h
    subst h
    cases h2 : ρ[j]? with
    | none =>
      simp only [RV.at, h2] at e
      cases e
    | some s =>
      have hs := R.sl j s h2
      simp only [RV.at, h2] at e
      cases s with
      | tr s g =>
        cases e3 : g.lookup a with
        | none => simp only [e3] at e; cases e
        | some xs =>
          simp only [e3] at e
          cases e
          obtain ⟨vs, q1, _, _, q2⟩ := hs.2.1.2 _ (lookup_mem e3)
          exact .lst q1 q2
      | _ => cases e
/-- an owned cell's content becomes data -/
theorem oc_dat (hs : s.own = true) (e : s.rd = some d) (h : OC K F s o) (hF : F a = some o) : Dat K F (.ref a) d := by
  cases s with
  | no => cases hs
  | fz _ => cases hs
  | ow xs =>
    cases o <;> first | exact h.elim | skip
    cases e
    exact .lst hF h
  | oi c fs =>
    cases o <;> first | exact h.elim | skip
    obtain ⟨rfl, h⟩ := h
    cases e
    exact .ins hF h
  | od kvs =>
    cases o <;> first | exact h.elim | skip
    cases e
    exact .dic hF h
  | tr _ _ => cases hs
theorem set_get? {α : Type} {l : List α} {i j : Nat} {x y : α} (h : (l.set i x)[j]? = some y) : (j = i ∧ y = x) ∨ (j ≠ i ∧ l[j]? = some y) := by
  by_cases e : j = i
  · subst e
    rw [List.getElem?_set] at h
    simp at h
    exact .inl ⟨rfl, h.2.symm⟩
  · rw [List.getElem?_set_ne (Ne.symm e)] at h
    exact .inr ⟨e, h⟩
/-- the slot i is frozen -/
theorem Rep.frzSlot (R : Rep K F G H fx ρ σ) (e : ρ[i]? = some s) (hs : s.own = true) (hd : s.rd = some d) (hv : σ[i]? = some (some v)) :
    ∃ F', Same F F' ∧ Rep K F' G H fx (ρ.set i (.fz d)) σ ∧ Dat K F' v d := by
  obtain ⟨a, o, h1, h2, h3, h4, h5⟩ := (R.sl i s e).own hs
  rw [hv] at h1; cases h1
  have sm : Same F (upd F a o) := fun b u e => by rw [upd_ne (ne_of_none e h3)]; exact e
  have hd' : Dat K (upd F a o) (.ref a) d := oc_dat hs hd (h5.mono sm) upd_same
  have aux : ∀ j b, Owns (ρ.set i (.fz d)) σ j b → j ≠ i ∧ Owns ρ σ j b := fun j b ⟨x, q, z⟩ => by
    rcases set_get? q with ⟨rfl, rfl⟩ | ⟨hj, q⟩
    · exact z.elim
    · exact ⟨hj, x, q, z⟩
  refine ⟨upd F a o, sm, ⟨fun b u q => ?_, R.gh, fun b u q => ?_, by rw [List.length_set]; exact R.len, fun j x q => ?_, fun j k b q1 q2 => R.nd j k b (aux j b q1).2 (aux k b q2).2, R.fix⟩, hd'⟩
  · by_cases hb : b = a
    · subst hb; rw [upd_same] at q; cases q; exact .inl h2
    · rw [upd_ne hb] at q; exact R.fh _ _ q
  · by_cases hb : b = a
    · subst hb; exact .inl h4
    · rw [upd_ne hb] at q; exact R.fg _ _ q
  · rcases set_get? q with ⟨rfl, rfl⟩ | ⟨hj, q⟩
    · exact ⟨_, hv, hd'⟩
    · refine (R.sl j x q).move sm fun b hb => ?_
      obtain ⟨u, k1, k2, k3, _⟩ := (R.sl j x q).cell hb
      have ne : b ≠ a := fun z => hj (R.nd j i a ⟨x, q, by rw [← z]; exact hb⟩ (.of e hs hv))
      exact ⟨by rw [upd_ne ne]; exact k2, k3, rfl⟩
/-- a result is captured: frozen -/
def RV.cap (r : RV) (ρ : DE) : Option (D × DE) := match r with
  | .v d => some (d, ρ)
  | .sl i => match ρ[i]? with
    | some (.fz d) => some (d, ρ)
    | some (.tr _ _) => none
    | some s => match s.rd with
      | some d => some (d, ρ.set i (.fz d))
      | none => none
    | none => none
  | .o s => match s.rd with
    | some d => some (d, ρ)
    | none => none
  | .t _ => none
  | .gr _ _ => none
theorem RvOk.cap {r : RV} (R : Rep K F G H fx ρ σ) (h : RvOk K F G H ρ σ r v) (e : r.cap ρ = some (d, ρ')) : ∃ F', Same F F' ∧ Rep K F' G H fx ρ' σ ∧ Dat K F' v d := by
  cases r with
  | v d' =>
    cases e
    exact ⟨F, Same.refl F, R, h⟩
  | sl i =>
    have h1 : σ[i]? = some (some v) := h
    cases h2 : ρ[i]? with
    | none =>
      simp only [RV.cap, h2] at e
      cases e
    | some s =>
    simp only [RV.cap, h2] at e
    cases s with
    | no => cases e
    | fz d' =>
      cases e
      obtain ⟨u, q1, q2⟩ := R.sl i _ h2
      rw [h1] at q1
      cases q1
      exact ⟨F, Same.refl F, R, q2⟩
    | ow xs =>
      cases e
      exact R.frzSlot h2 rfl rfl h1
    | oi c fs =>
      cases e
      exact R.frzSlot h2 rfl rfl h1
    | od kvs =>
      cases e
      exact R.frzSlot h2 rfl rfl h1
    | tr _ _ => cases e
  | o s =>
    obtain ⟨h3, a, o, rfl, q2, q3, q4, q5, q6⟩ := h
    obtain ⟨sm, R'⟩ := R.frz (o := o) q3 q4 q2 q6
    refine ⟨upd F a o, sm, ?_⟩
    cases s with
    | no => cases h3
    | fz _ => cases h3
    | ow xs =>
      cases e
      exact ⟨R', oc_dat (s := .ow xs) rfl rfl (q5.mono sm) upd_same⟩
    | oi c fs =>
      cases e
      exact ⟨R', oc_dat (s := .oi c fs) rfl rfl (q5.mono sm) upd_same⟩
    | od kvs =>
      cases e
      exact ⟨R', oc_dat (s := .od kvs) rfl rfl (q5.mono sm) upd_same⟩
    | tr _ _ => cases h3
  | t s => cases e
  | gr j a => cases e
end
end BB

namespace BB
open PySem PySem.Spec PyProof.Rows L2

/-! ### readings over data -/
abbrev MQ := RV → DE → Prop
abbrev MX := Addr → D → DE → Prop
abbrev M := DE → MQ → MX → Prop
abbrev MT := DE → (Bool → DE → Prop) → MX → Prop
abbrev ML := DE → (List D → DE → Prop) → MX → Prop

def XOk (K : PySem.W.Frag) (G : Hp) (fx : List (Nat × Addr)) (W : WX) (F : Hp) (σ : L2.St) (X0 : MX) : Prop :=
  ∀ c d ρ', X0 c d ρ' → ∀ F' H' v dx, Same F F' → Rep K F' G H' fx ρ' σ → H' dx = some (.xd [(("value" : Str), v)]) → Dat K F' v d → F' dx = none → G dx = none → W (.ref c) (some dx) σ H'
theorem XOk.mono {K : PySem.W.Frag} {G : Hp} {fx : List (Nat × Addr)} {W : WX} {F F' : Hp} {σ : L2.St} {X0 : MX} (s : Same F F') (h : XOk K G fx W F σ X0) : XOk K G fx W F' σ X0 :=
  fun c d ρ' x F1 H' v dx s1 => h c d ρ' x F1 H' v dx (s.trans s1)
def tS (K : PySem.W.Frag) (fx : List (Nat × Addr)) (W : WX) (m : M) : TE := fun σ H Q => ∃ F G ρ Q0 X0, Rep K F G H fx ρ σ ∧ m ρ Q0 X0 ∧
  (∀ r ρ', Q0 r ρ' → ∀ F' H' v, Same F F' → Rep K F' G H' fx ρ' σ → RvOk K F' G H' ρ' σ r v → Q v H') ∧ XOk K G fx W F σ X0
def tST (K : PySem.W.Frag) (fx : List (Nat × Addr)) (W : WX) (m : MT) : TT := fun σ H Q => ∃ F G ρ Q0 X0, Rep K F G H fx ρ σ ∧ m ρ Q0 X0 ∧
  (∀ r ρ', Q0 r ρ' → ∀ F' H', Same F F' → Rep K F' G H' fx ρ' σ → Q r H') ∧ XOk K G fx W F σ X0
def tSL (K : PySem.W.Frag) (fx : List (Nat × Addr)) (W : WX) (m : ML) : TA := fun σ H Q => ∃ F G ρ Q0 X0, Rep K F G H fx ρ σ ∧ m ρ Q0 X0 ∧
  (∀ r ρ', Q0 r ρ' → ∀ F' H' v, Same F F' → Rep K F' G H' fx ρ' σ → DatL K F' v r → Q v H') ∧ XOk K G fx W F σ X0
abbrev ES (X : Cx) (fx : List (Nat × Addr)) (W : WX) (e : Expr) (m : M) : Prop := PE X e (tS X.K fx W m)
abbrev ET (X : Cx) (fx : List (Nat × Addr)) (W : WX) (e : Expr) (m : MT) : Prop := PT X e (tST X.K fx W m)
abbrev EW (X : Cx) (fx : List (Nat × Addr)) (W : WX) (e : Expr) (m : MT) : Prop := PW X e (tST X.K fx W m)
abbrev EL (X : Cx) (fx : List (Nat × Addr)) (W : WX) (es : List Expr) (m : ML) : Prop := PA X es (tSL X.K fx W m)
theorem pe_imp {X : Cx} {e : Expr} {t t' : TE} (h : PE X e t) (i : ∀ σ H Q, t' σ H Q → t σ H Q) : PE X e t' := ⟨fun pins s σ H Q I q => h.run pins s σ H Q I (i σ H Q q)⟩
theorem pt_imp {X : Cx} {e : Expr} {t t' : TT} (h : PT X e t) (i : ∀ σ H Q, t' σ H Q → t σ H Q) : PT X e t' := ⟨fun pins s σ H Q I q => h.run pins s σ H Q I (i σ H Q q)⟩
theorem pw_imp {X : Cx} {e : Expr} {t t' : TT} (h : PW X e t) (i : ∀ σ H Q, t' σ H Q → t σ H Q) : PW X e t' := ⟨fun w pins s σ H Q I q => h.run w pins s σ H Q I (i σ H Q q)⟩
theorem pa_imp {X : Cx} {e : List Expr} {t t' : TA} (h : PA X e t) (i : ∀ σ H Q, t' σ H Q → t σ H Q) : PA X e t' := ⟨fun w pins s σ H Q I q => h.run w pins s σ H Q I (i σ H Q q)⟩

def onD (o : Option D) (k : D → Prop) : Prop := match o with
  | some d => k d
  | none => False
theorem onD_some {o : Option D} {k : D → Prop} (h : onD o k) : ∃ d, o = some d ∧ k d := by
  cases o with
  | none => exact h.elim
  | some d => exact ⟨d, rfl, h⟩
def onC (o : Option (D × DE)) (k : D → DE → Prop) : Prop := match o with
  | some (d, ρ) => k d ρ
  | none => False
theorem onC_some {o : Option (D × DE)} {k : D → DE → Prop} (h : onC o k) : ∃ d ρ, o = some (d, ρ) ∧ k d ρ := by
  cases o with
  | none => exact h.elim
  | some d => exact ⟨d.1, d.2, rfl, h⟩
/-- a fresh result is kept as data while more is evaluated -/
def RV.keep (r : RV) : RV := match r with
  | .o s => match s.rd with
    | some d => .v d
    | none => .o s
  | .t _ => .t .no
  | r => r

section
variable {X : Cx} {K : PySem.W.Frag} {F F' G H H' : Hp} {fx : List (Nat × Addr)} {W : WX} {ρ ρ' ρ1 : DE} {σ : L2.St} {pos pos' : Pos} {e a b c : Expr} {m ma mb mc : M} {v : V} {d : D}

theorem own_rd {s : SV} (h : s.own = true) : ∃ d, s.rd = some d := by
  cases s <;> first | exact ⟨_, rfl⟩ | cases h
theorem RvOk.keep {r : RV} (R : Rep K F G H fx ρ σ) (h : RvOk K F G H ρ σ r v) : ∃ F', Same F F' ∧ Rep K F' G H fx ρ σ ∧ ∀ F'' H'' ρ'', Same F' F'' → RvOk K F'' G H'' ρ'' σ r.keep v := by
  cases r with
  | v d => exact ⟨F, Same.refl F, R, fun F'' H'' ρ'' s => Dat.mono s h⟩
  | sl i => exact ⟨F, Same.refl F, R, fun F'' H'' ρ'' s => h⟩
  | o s =>
    obtain ⟨d, hd⟩ := own_rd h.1
    obtain ⟨F', s1, R', q⟩ := RvOk.cap (r := .o s) (d := d) (ρ' := ρ) R h (by simp only [RV.cap, hd])
    refine ⟨F', s1, R', fun F'' H'' ρ'' s2 => ?_⟩
    show RvOk K F'' G H'' ρ'' σ (match s.rd with | some d => RV.v d | none => RV.o s) v
    rw [hd]
    exact q.mono s2
  | gr j a => exact ⟨F, Same.refl F, R, fun F'' H'' ρ'' s => h⟩
  | t s => exact ⟨F, Same.refl F, R, fun F'' H'' ρ'' s => ⟨trivial, fun _ z => z.elim⟩⟩

/-! ### names, constants -/
def mVar (i : Nat) : M := fun ρ Q _ => match ρ[i]? with
  | some (.fz d) => Q (.v d) ρ
  | some (.ow _) => Q (.sl i) ρ
  | some (.oi _ _) => Q (.sl i) ρ
  | some (.od _) => Q (.sl i) ρ
  | some (.tr (.ow _) _) => Q (.sl i) ρ
  | some (.tr (.oi _ _) _) => Q (.sl i) ρ
  | _ => False
theorem ts_var {i : Nat} {Q : VK} (h : tS K fx W (mVar i) σ H Q) : tVar i σ H Q := by
  obtain ⟨F, G, ρ, Q0, X0, R, h, q, _⟩ := h
  unfold mVar at h
  cases e : ρ[i]? with
  | none => rw [e] at h; exact h.elim
  | some s =>
    rw [e] at h
    have z := R.sl i s e
    cases s with
    | no => exact h.elim
    | fz d =>
      obtain ⟨v, h1, h2⟩ := z
      exact ⟨v, h1, q _ _ h F H v (Same.refl F) R h2⟩
    | ow xs =>
      obtain ⟨a, o, h1, _⟩ := z
      exact ⟨.ref a, h1, q _ _ h F H _ (Same.refl F) R h1⟩
    | oi c fs =>
      obtain ⟨a, o, h1, _⟩ := z
      exact ⟨.ref a, h1, q _ _ h F H _ (Same.refl F) R h1⟩
    | od kvs =>
      obtain ⟨a, o, h1, _⟩ := z
      exact ⟨.ref a, h1, q _ _ h F H _ (Same.refl F) R h1⟩
    | tr s _ =>
      cases s with
      | ow xs =>
        obtain ⟨a, o, h1, _⟩ := z.1
        exact ⟨.ref a, h1, q _ _ h F H _ (Same.refl F) R h1⟩
      | oi c fs =>
        obtain ⟨a, o, h1, _⟩ := z.1
        exact ⟨.ref a, h1, q _ _ h F H _ (Same.refl F) R h1⟩
      | no => exact h.elim
      | fz _ => exact h.elim
      | od _ => exact h.elim
      | tr _ _ => exact h.elim
theorem es_var (i : Nat) {x : Str} (hN : X.N[i]? = some x := by rfl) (hv : Vis X.env.scope x := by first | exact Or.inl rfl | exact Or.inr (Or.inl rfl) | exact Or.inr (Or.inr rfl)) (hd : (x == ("__debug__" : Str)) = false := by decide)
    (hcd : (x == ("__classdict__" : Str)) = false := by decide) : ES X fx W (.Name x pos) (mVar i) := pe_imp (pe_var hN hv hd hcd) fun _ _ _ h => ts_var h
def mC (d : D) : M := fun ρ Q _ => Q (.v d) ρ
theorem ts_c (hd : ∀ F, Dat K F v d) {Q : VK} (h : tS K fx W (mC d) σ H Q) : tC v σ H Q := by
  obtain ⟨F, G, ρ, Q0, X0, R, h, q, _⟩ := h
  exact q _ _ h F H v (Same.refl F) R (hd F)
theorem es_int {i : Int} {j} : ES X fx W (.Constant (.int i) j pos) (mC (.int i)) := pe_imp pe_int fun _ _ _ h => ts_c (fun _ => .int i) h
theorem es_bl {i : Bool} {j} : ES X fx W (.Constant (.bool i) j pos) (mC (.bl i)) := pe_imp pe_bl fun _ _ _ h => ts_c (fun _ => .bl i) h
theorem es_non {j} : ES X fx W (.Constant .none j pos) (mC .non) := pe_imp pe_non fun _ _ _ h => ts_c (fun _ => .non) h
theorem es_str {i : Str} {j} : ES X fx W (.Constant (.str i) j pos) (mC (.str i)) := pe_imp pe_str fun _ _ _ h => ts_c (fun _ => .str i) h
theorem es_glob {x : Str} {u : Value} (hm : X.mg x = some u) (r : RelV v u) (hd : ∀ F, Dat X.K F v d) (hg : Gl X x := by rfl) (hb : (x == ("__debug__" : Str)) = false := by decide) : ES X fx W (.Name x pos) (mC d) :=
  pe_imp (pe_glob hg hm r hb) fun _ _ _ h => ts_c hd h

/-! ### operators -/
abbrev F2 := D → D → (RV → Prop) → Prop
abbrev F1 := D → (RV → Prop) → Prop
structure Snd2 (K : PySem.W.Frag) (r : R2) (f : F2) : Prop where
  ok : ∀ {F G H fx ρ σ x y d e Q0} {Q : VK}, Rep K F G H fx ρ σ → Top K F H x d → Top K F H y e → f d e Q0 →
    (∀ r0, Q0 r0 → ∀ F' H' v, Same F F' → Rep K F' G H' fx ρ σ → RvOk K F' G H' ρ σ r0 v → Q v H') → r x y H Q
def mOp2 (f : F2) (ma mb : M) : M := fun ρ Q X => ma ρ (fun r1 ρ1 => mb ρ1 (fun r2 ρ2 => onD (r1.keep.at ρ2) fun d1 => onD (r2.at ρ2) fun d2 => f d1 d2 fun r => Q r ρ2) X) X
theorem ts_op2 {r : R2} {f : F2} (S : Snd2 K r f) {Q : VK} (h : tS K fx W (mOp2 f ma mb) σ H Q) : tOp r (tS K fx W ma) (tS K fx W mb) σ H Q := by
  obtain ⟨F, G, ρ, Q0, X0, R, h, q, x⟩ := h
  refine ⟨F, G, ρ, _, X0, R, h, fun r1 ρ1 h1 F1 H1 v1 s1 R1 k1 => ?_, x⟩
  obtain ⟨F2, s2, R2, k2⟩ := k1.keep R1
  refine ⟨F2, G, ρ1, _, X0, R2, h1, fun r2 ρ2 h2 F3 H3 v2 s3 R3 k3 => ?_, x.mono (s1.trans s2)⟩
  obtain ⟨d1, e1, h2⟩ := onD_some h2
  obtain ⟨d2, e2, h2⟩ := onD_some h2
  exact S.ok R3 (RvOk.top R3 (k2 F3 H3 ρ2 s3) e1) (k3.top R3 e2) h2 fun r0 p F4 H4 v4 s4 R4 k4 => q _ _ p F4 H4 v4 (((s1.trans s2).trans s3).trans s4) R4 k4
structure Snd1 (K : PySem.W.Frag) (r : V → Hp → VK → Prop) (f : F1) : Prop where
  ok : ∀ {F G H fx ρ σ x d Q0} {Q : VK}, Rep K F G H fx ρ σ → Top K F H x d → f d Q0 →
    (∀ r0, Q0 r0 → ∀ F' H' v, Same F F' → Rep K F' G H' fx ρ σ → RvOk K F' G H' ρ σ r0 v → Q v H') → r x H Q
def mOp1 (f : F1) (ma : M) : M := fun ρ Q X => ma ρ (fun r1 ρ1 => onD (r1.at ρ1) fun d1 => f d1 fun r => Q r ρ1) X
theorem ts_op1 {r : V → Hp → VK → Prop} {f : F1} (S : Snd1 K r f) {Q : VK} (h : tS K fx W (mOp1 f ma) σ H Q) : tUn r (tS K fx W ma) σ H Q := by
  obtain ⟨F, G, ρ, Q0, X0, R, h, q, x⟩ := h
  refine ⟨F, G, ρ, _, X0, R, h, fun r1 ρ1 h1 F1 H1 v1 s1 R1 k1 => ?_, x⟩
  obtain ⟨d1, e1, h1⟩ := onD_some h1
  exact S.ok R1 (k1.top R1 e1) h1 fun r0 p F4 H4 v4 s4 R4 k4 => q _ _ p F4 H4 v4 (s1.trans s4) R4 k4
/-- a new list, a new tuple is handed out -/
theorem out_lst {vs : List V} {xs : List D} {p : Addr} (R : Rep K F G H fx ρ σ) (hp : H p = none) (h : DatL K F vs xs) :
    Rep K F G (upd H p (.lst vs)) fx ρ σ ∧ RvOk K F G (upd H p (.lst vs)) ρ σ (.o (.ow xs)) (.ref p) := by
  obtain ⟨R1, h1, h2, h3⟩ := R.new (o := .lst vs) hp
  exact ⟨R1, rfl, p, _, rfl, upd_same, h1, h2, h, h3⟩
theorem out_tup {vs : List V} {xs : List D} {p : Addr} (R : Rep K F G H fx ρ σ) (hp : H p = none) (h : DatL K F vs xs) :
    ∃ F', Same F F' ∧ Rep K F' G (upd H p (.tup vs)) fx ρ σ ∧ Dat K F' (.ref p) (.tup xs) := by
  obtain ⟨sm, R1⟩ := R.newF (o := .tup vs) hp
  exact ⟨_, sm, R1, .tup (.inl (.inl upd_same)) (h.mono sm)⟩
theorem Top.lst_inv {xs : List D} (R : Rep K F G H fx ρ σ) (h : Top K F H v (.lst xs)) : ∃ a vs, v = .ref a ∧ H a = some (.lst vs) ∧ DatL K F vs xs := by
  cases h with
  | dat h => cases h with | lst h1 h2 => exact ⟨_, _, rfl, R.fh.lst h1, h2⟩
  | lst h1 h2 => exact ⟨_, _, rfl, h1, h2⟩
theorem Top.tup_inv {xs : List D} (R : Rep K F G H fx ρ σ) (h : Top K F H v (.tup xs)) : ∃ a vs, v = .ref a ∧ SqT K H a vs ∧ DatL K F vs xs := by
  cases h with
  | dat h => cases h with | tup h1 h2 => exact ⟨_, _, rfl, R.fh.sqT h1, h2⟩
theorem Top.scr_inv {xs : List D} (R : Rep K F G H fx ρ σ) (h : Top K F H v (.scr xs)) : ∃ a vs, v = .ref a ∧ SqL K H a vs ∧ DatL K F vs xs := by
  cases h with
  | dat h => cases h with | scr h1 h2 => exact ⟨_, _, rfl, R.fh.seq h1, h2⟩
theorem Top.ins_inv {C : Addr} {fs : List (Str × D)} (R : Rep K F G H fx ρ σ) (h : Top K F H v (.ins C fs)) : ∃ a dx vs, v = .ref a ∧ H a = some (.ins C dx vs) ∧ DatF K F vs fs := by
  cases h with
  | dat h => cases h with | ins h1 h2 => exact ⟨_, _, _, rfl, R.fh.ins h1, h2⟩
  | ins h1 h2 => exact ⟨_, _, _, rfl, h1, h2⟩
theorem Top.dic_inv {kvs : List (Key × D)} (R : Rep K F G H fx ρ σ) (h : Top K F H v (.dic kvs)) : ∃ a vs, v = .ref a ∧ Rd H a (.dK vs) ∧ DatK K F vs kvs := by
  cases h with
  | dat h => cases h with | dic h1 h2 => exact ⟨_, _, rfl, R.fh.dic h1, h2⟩
  | dic h1 h2 => exact ⟨_, _, rfl, h1, h2⟩
theorem Top.int_inv {i : Int} (h : Top K F H v (.int i)) : v = .int i := by
  cases h with
  | dat h => cases h; rfl
theorem Top.bl_inv {i : Bool} (h : Top K F H v (.bl i)) : v = .bl i := by
  cases h with
  | dat h => cases h; rfl
theorem Top.str_inv {i : Str} (h : Top K F H v (.str i)) : v = .str i := by
  cases h with
  | dat h => cases h; rfl
theorem Top.non_inv (h : Top K F H v .non) : v = .non := by
  cases h with
  | dat h => cases h; rfl

def rOr (r r' : R2) : R2 := fun x y H Q => r x y H Q ∨ r' x y H Q
theorem opr_or {f : Value → Value → Sem Value} {r r' : R2} (h : OpR X f r) (h' : OpR X f r') : OpR X f (rOr r r') := OpR.or h h'

/-- + -/
def fAdd : F2 := fun d e Q => match d, e with
  | .int i, .int j => Q (.v (.int (i + j)))
  | .lst xs, .lst ys => xs.length + ys.length ≤ sizeLine ∧ Q (.o (.ow (xs ++ ys)))
  | .str x, .str y => x.length + y.length ≤ sizeLine ∧ Q (.v (.str (x ++ y)))
  | .tup xs, .tup ys => xs.length + ys.length ≤ sizeLine ∧ Q (.v (.tup (xs ++ ys)))
  | _, _ => False
def rAddA (K : PySem.W.Frag) : R2 := rOr (rI0 fun i j => .int (i + j)) (rOr rCat (rOr (fun x y H Q => ∃ i j, x = .str i ∧ y = .str j ∧ i.length + j.length ≤ sizeLine ∧ Q (.str (i ++ j)) H) (rCatA K)))
theorem op_addA : OpR X (binaryOp .Add) (rAddA X.K) := opr_or op_add (opr_or op_cat (opr_or op_add_str op_catA))
theorem snd_add : Snd2 K (rAddA K) fAdd where
  ok := by
    intro F G H fx ρ σ x y d e Q0 Q R h1 h2 hf q
    unfold fAdd at hf
    split at hf
    · rw [h1.int_inv, h2.int_inv]
      exact .inl ⟨_, _, rfl, rfl, q _ hf F H _ (Same.refl F) R (.int _)⟩
    · obtain ⟨a, vs, rfl, ha, da⟩ := h1.lst_inv R
      obtain ⟨b, ws, rfl, hb, db⟩ := h2.lst_inv R
      refine .inr (.inl ⟨a, b, vs, ws, rfl, rfl, ha, hb, by rw [da.length, db.length]; exact hf.1, fun p hp => ?_⟩)
      obtain ⟨R1, k1⟩ := out_lst R hp (da.append db)
      exact q _ hf.2 F _ _ (Same.refl F) R1 k1
    · rw [h1.str_inv, h2.str_inv]
      exact .inr (.inr (.inl ⟨_, _, rfl, rfl, hf.1, q _ hf.2 F H _ (Same.refl F) R (.str _)⟩))
    · rename_i xs ys
      have k1 : Dat K F x (.tup xs) := by cases h1 with | dat h => exact h
      have k2 : Dat K F y (.tup ys) := by cases h2 with | dat h => exact h
      obtain ⟨a, vs, rfl, ha, da⟩ := h1.tup_inv R
      obtain ⟨b, ws, rfl, hb, db⟩ := h2.tup_inv R
      refine .inr (.inr (.inr ⟨a, b, vs, ws, rfl, rfl, ha, hb, by rw [da.length, db.length]; exact hf.1, fun e => ?_, fun _ e => ?_, fun _ _ p hp => ?_⟩))
      · subst e
        cases da
        exact q _ hf.2 F H _ (Same.refl F) R k2
      · subst e
        cases db
        have hf2 := hf.2
        rw [List.append_nil] at hf2
        exact q _ hf2 F H _ (Same.refl F) R k1
      · obtain ⟨F', sm, R1, k⟩ := out_tup R hp (da.append db)
        exact q _ hf.2 F' _ _ sm R1 k
    · exact hf.elim
theorem es_add (ha : ES X fx W a ma) (hb : ES X fx W b mb) : ES X fx W (.BinOp a .Add b pos) (mOp2 fAdd ma mb) := pe_imp (pe_op op_addA ha hb) fun _ _ _ h => ts_op2 snd_add h
/-- ints alone -/
def fI (C : Int → Int → Prop) (g : Int → Int → D) : F2 := fun d e Q => match d, e with
  | .int i, .int j => C i j ∧ Q (.v (g i j))
  | _, _ => False
theorem snd_I {C : Int → Int → Prop} {g : Int → Int → V} {g' : Int → Int → D} (hg : ∀ i j F, Dat K F (g i j) (g' i j)) : Snd2 K (rI C g) (fI C g') where
  ok := by
    intro F G H fx ρ σ x y d e Q0 Q R h1 h2 hf q
    unfold fI at hf
    split at hf
    · rw [h1.int_inv, h2.int_inv]
      exact ⟨_, _, rfl, rfl, hf.1, q _ hf.2 F H _ (Same.refl F) R (hg _ _ _)⟩
    · exact hf.elim
def fSub : F2 := fI (fun _ _ => True) fun i j => .int (i - j)
theorem op_subA : OpR X (binaryOp .Sub) (rI (fun _ _ => True) fun i j => .int (i - j)) := fun pins s σ H x y v u Q I rx ry ⟨i, j, h1, h2, _, h3⟩ => op_sub pins s σ H x y v u Q I rx ry ⟨i, j, h1, h2, h3⟩
theorem es_sub (ha : ES X fx W a ma) (hb : ES X fx W b mb) : ES X fx W (.BinOp a .Sub b pos) (mOp2 fSub ma mb) := pe_imp (pe_op op_subA ha hb) fun _ _ _ h => ts_op2 (snd_I fun _ _ _ => .int _) h
/-- * -/
def fMul : F2 := fun d e Q => match d, e with
  | .int i, .int j => CMulW i j ∧ Q (.v (.int (i * j)))
  | .lst xs, .int k => (-(2 ^ 63) ≤ k ∧ k < 2 ^ 63 ∧ xs.length * k.toNat ≤ sizeLine) ∧ Q (.o (.ow (List.replicate k.toNat xs).flatten))
  | _, _ => False
theorem DatL.flat {vs : List V} {xs : List D} (h : DatL K F vs xs) : ∀ n, DatL K F (List.replicate n vs).flatten (List.replicate n xs).flatten
  | 0 => .nil
  | n + 1 => by
    rw [List.replicate_succ, List.replicate_succ, List.flatten_cons, List.flatten_cons]
    exact h.append (DatL.flat h n)
theorem op_mulA : OpR X (binaryOp .Mult) (rOr (rI CMulW fun i j => .int (i * j)) rRep) := opr_or op_mulW op_rep
theorem snd_mul : Snd2 K (rOr (rI CMulW fun i j => .int (i * j)) rRep) fMul where
  ok := by
    intro F G H fx ρ σ x y d e Q0 Q R h1 h2 hf q
    unfold fMul at hf
    split at hf
    · rw [h1.int_inv, h2.int_inv]
      exact .inl ⟨_, _, rfl, rfl, hf.1, q _ hf.2 F H _ (Same.refl F) R (.int _)⟩
    · obtain ⟨a, vs, rfl, ha, da⟩ := h1.lst_inv R
      rw [h2.int_inv]
      obtain ⟨⟨z1, z2, z3⟩, hf⟩ := hf
      refine .inr ⟨a, _, vs, rfl, rfl, ha, z1, z2, by rw [da.length]; exact z3, fun p hp => ?_⟩
      obtain ⟨R1, k1⟩ := out_lst R hp (da.flat _)
      exact q _ hf F _ _ (Same.refl F) R1 k1
    · exact hf.elim
theorem es_mul (ha : ES X fx W a ma) (hb : ES X fx W b mb) : ES X fx W (.BinOp a .Mult b pos) (mOp2 fMul ma mb) := pe_imp (pe_op op_mulA ha hb) fun _ _ _ h => ts_op2 snd_mul h
/-- // % ** -/
def CDivA (_ j : Int) : Prop := j ≠ 0 ∧ j.natAbs.log2 < 9000
def fDiv : F2 := fI CDivA fun i j => .int (i.fdiv j)
theorem op_fdivA : OpR X (binaryOp .FloorDiv) (rI CDivA fun i j => .int (i.fdiv j)) := opI fun i j _ _ _ _ _ hc q => floordiv_int hc.1 q (.inl (PyProof.noPylong_of_log2 hc.2))
theorem es_div (ha : ES X fx W a ma) (hb : ES X fx W b mb) : ES X fx W (.BinOp a .FloorDiv b pos) (mOp2 fDiv ma mb) := pe_imp (pe_op op_fdivA ha hb) fun _ _ _ h => ts_op2 (snd_I fun _ _ _ => .int _) h
def fMod : F2 := fI (fun _ j => j ≠ 0) fun i j => .int (i.fmod j)
theorem es_mod (ha : ES X fx W a ma) (hb : ES X fx W b mb) : ES X fx W (.BinOp a .Mod b pos) (mOp2 fMod ma mb) := pe_imp (pe_op op_modN ha hb) fun _ _ _ h => ts_op2 (snd_I fun _ _ _ => .int _) h
def CPowA (i j : Int) : Prop := 0 ≤ j ∧ (Builtin.Int.intBits i : Int) * j ≤ 2 ^ 27
def fPow : F2 := fI CPowA fun i j => .int (i ^ j.toNat)
theorem op_powA : OpR X (binaryOp .Pow) (rI CPowA fun i j => .int (i ^ j.toNat)) := opI fun _ _ _ _ _ _ _ hc q => PyProof.Rows.pow_int hc.1 hc.2 q
theorem es_pow (ha : ES X fx W a ma) (hb : ES X fx W b mb) : ES X fx W (.BinOp a .Pow b pos) (mOp2 fPow ma mb) := pe_imp (pe_op op_powA ha hb) fun _ _ _ h => ts_op2 (snd_I fun _ _ _ => .int _) h
def fNeg : F1 := fun d Q => match d with
  | .int i => Q (.v (.int (-i)))
  | _ => False
theorem snd_neg : Snd1 K (rU fun i => .int (-i)) fNeg where
  ok := by
    intro F G H fx ρ σ x d Q0 Q R h1 hf q
    unfold fNeg at hf
    split at hf
    · rw [h1.int_inv]
      exact ⟨_, rfl, q _ hf F H _ (Same.refl F) R (.int _)⟩
    · exact hf.elim
theorem es_neg (ha : ES X fx W a ma) : ES X fx W (.UnaryOp .USub a pos) (mOp1 fNeg ma) := pe_imp (pe_un un_neg ha) fun _ _ _ h => ts_op1 snd_neg h

/-! ### comparisons -/
mutual
/-- data as the library's data -/
def D.py : D → Option PyData
  | .non => some .none
  | .bl b => some (.bool b)
  | .int i => some (.int i)
  | .str x => some (.str x)
  | .lst xs => match D.pys xs with
    | some ys => some (.list ys)
    | none => none
  | .tup xs => match D.pys xs with
    | some ys => some (.tuple ys)
    | none => none
  | .ins _ _ => none
  | .scr _ => none
  | .dic _ => none
  | .xcp _ _ _ _ => none
  | .adr _ => none
def D.pys : List D → Option (List PyData)
  | [] => some []
  | x :: xs => match D.py x, D.pys xs with
    | some y, some ys => some (y :: ys)
    | _, _ => none
end
mutual
theorem Dat.dp : ∀ {d : D} {v : V} {p : PyData}, Dat K F v d → d.py = some p → Dp K F v p
  | .non, _, _, h, e => by cases h; cases e; exact .non
  | .bl b, _, _, h, e => by cases h; cases e; exact .bl b
  | .int i, _, _, h, e => by cases h; cases e; exact .int i
  | .str x, _, _, h, e => by cases h; cases e; exact .str x
  | .lst xs, _, _, h, e => by
    cases h with
    | lst h1 h2 =>
      unfold D.py at e
      split at e
      · cases e
        rename_i ys hy
        exact .lst (SqL.of h1) (DatL.dp h2 hy)
      · cases e
  | .tup xs, _, _, h, e => by
    cases h with
    | tup h1 h2 =>
      unfold D.py at e
      split at e
      · cases e
        rename_i ys hy
        exact .tup h1 (DatL.dp h2 hy)
      · cases e
  | .ins _ _, _, _, h, e => by cases e
  | .scr _, _, _, h, e => by cases e
  | .dic _, _, _, h, e => by cases e
  | .xcp _ _ _ _, _, _, h, e => by cases e
  | .adr _, _, _, h, e => by cases e
theorem DatL.dp : ∀ {ds : List D} {vs : List V} {ps : List PyData}, DatL K F vs ds → D.pys ds = some ps → DpAll K F vs ps
  | [], _, _, h, e => by cases h; cases e; exact .nil
  | d :: ds, _, _, h, e => by
    cases h with
    | cons h1 h2 =>
      unfold D.pys at e
      split at e
      · cases e
        rename_i y ys hy hys
        exact .cons (Dat.dp h1 hy) (DatL.dp h2 hys)
      · cases e
end
mutual
theorem Dp.same (s : Same F F') : ∀ {v : V} {p : PyData}, Dp K F v p → Dp K F' v p
  | _, _, .non => .non
  | _, _, .bl b => .bl b
  | _, _, .int i => .int i
  | _, _, .str x => .str x
  | _, _, .lst h t => .lst (s.seq h) (DpAll.same s t)
  | _, _, .tup h t => .tup (same_sqT s h) (DpAll.same s t)
theorem DpAll.same (s : Same F F') : ∀ {v : List V} {p : List PyData}, DpAll K F v p → DpAll K F' v p
  | _, _, .nil => .nil
  | _, _, .cons h t => .cons (Dp.same s h) (DpAll.same s t)
end
mutual
theorem Dp.sf (s : SF F F') : ∀ {v : V} {p : PyData}, Dp K F v p → Dp K F' v p
  | _, _, .non => .non
  | _, _, .bl b => .bl b
  | _, _, .int i => .int i
  | _, _, .str x => .str x
  | _, _, .lst h t => .lst (s.seq h) (DpAll.sf s t)
  | _, _, .tup h t => .tup (s.sqT h) (DpAll.sf s t)
theorem DpAll.sf (s : SF F F') : ∀ {v : List V} {p : List PyData}, DpAll K F v p → DpAll K F' v p
  | _, _, .nil => .nil
  | _, _, .cons h t => .cons (Dp.sf s h) (DpAll.sf s t)
end
theorem Top.dp {p : PyData} (R : Rep K F G H fx ρ σ) (h : Top K F H v d) (e : d.py = some p) : Dp K H v p := by
  cases h with
  | dat h => exact Dp.sf R.fh (h.dp e)
  | lst h1 h2 =>
    unfold D.py at e
    split at e
    · cases e
      rename_i ys hy
      exact .lst (SqL.of h1) (DpAll.sf R.fh (h2.dp hy))
    · cases e
  | ins h1 h2 => cases e
  | dic h1 h2 => cases e
/-- == and != of plain data -/
def eqD (d e : D) : Option Bool := match d.py, e.py with
  | some p, some q => if SeqAt.shaped p = true ∧ SeqAt.shaped q = true then some (PyData.eqv p q) else none
  | _, _ => none
/-- two texts -/
def eqS : D → D → Option Bool
  | .str x, .str y => some (decide (x = y))
  | _, _ => none
def fEq (neg : Bool) : F2 := fun d e Q => match eqS d e with
  | some b => Q (.v (.bl (if neg then !b else b)))
  | none => match eqD d e with
    | some b => Q (.v (.bl (if neg then !b else b)))
    | none => False
theorem eqS_inv {d e : D} {b : Bool} (h : eqS d e = some b) : ∃ x y, d = .str x ∧ e = .str y ∧ b = decide (x = y) := by
  cases d <;> cases e <;> first | (cases h; done) | skip
  cases h
  exact ⟨_, _, rfl, rfl, rfl⟩
theorem snd_eq : Snd2 K (rOr (rEqD K) rEq) (fEq false) where
  ok := by
    intro F G H fx ρ σ x y d e Q0 Q R h1 h2 hf q
    unfold fEq at hf
    split at hf
    · rename_i b hb
      obtain ⟨u, w, rfl, rfl, rfl⟩ := eqS_inv hb
      rw [h1.str_inv, h2.str_inv]
      refine .inr ⟨rfl, ?_⟩
      rw [show decide (V.str u = V.str w) = decide (u = w) by simp]
      exact q _ hf F H _ (Same.refl F) R (.bl _)
    split at hf
    · rename_i b hb
      unfold eqD at hb
      split at hb
      · rename_i p p' hp hp'
        split at hb
        · rename_i hs
          cases hb
          exact .inl ⟨p, p', h1.dp R hp, h2.dp R hp', hs.1, hs.2, q _ hf F H _ (Same.refl F) R (.bl _)⟩
        · cases hb
      · cases hb
    · exact hf.elim
theorem snd_ne : Snd2 K (rOr (rNeD K) rNe) (fEq true) where
  ok := by
    intro F G H fx ρ σ x y d e Q0 Q R h1 h2 hf q
    unfold fEq at hf
    split at hf
    · rename_i b hb
      obtain ⟨u, w, rfl, rfl, rfl⟩ := eqS_inv hb
      rw [h1.str_inv, h2.str_inv]
      refine .inr ⟨rfl, ?_⟩
      rw [show decide (V.str u = V.str w) = decide (u = w) by simp]
      exact q _ hf F H _ (Same.refl F) R (.bl _)
    split at hf
    · rename_i b hb
      unfold eqD at hb
      split at hb
      · rename_i p p' hp hp'
        split at hb
        · rename_i hs
          cases hb
          exact .inl ⟨p, p', h1.dp R hp, h2.dp R hp', hs.1, hs.2, q _ hf F H _ (Same.refl F) R (.bl _)⟩
        · cases hb
      · cases hb
    · exact hf.elim
theorem es_eq (hu : X.A.units + 64 < cLine) (ha : ES X fx W a ma) (hb : ES X fx W b mb) : ES X fx W (.Compare a [.Eq] [b] pos) (mOp2 (fEq false) ma mb) := pe_imp (pe_cmpR (opr_or (op_eqD hu) op_eq) ha hb (nomark b)) fun _ _ _ h => ts_op2 snd_eq h
theorem es_ne (hu : X.A.units + 64 < cLine) (ha : ES X fx W a ma) (hb : ES X fx W b mb) : ES X fx W (.Compare a [.NotEq] [b] pos) (mOp2 (fEq true) ma mb) := pe_imp (pe_cmpR (opr_or (op_neD hu) op_ne) ha hb (nomark b)) fun _ _ _ h => ts_op2 snd_ne h
def fCmp (p : Int → Int → Bool) : F2 := fun d e Q => match d, e with
  | .int i, .int j => Q (.v (.bl (p i j)))
  | _, _ => False
theorem snd_cmp {p : Int → Int → Bool} : Snd2 K (rI0 fun i j => .bl (p i j)) (fCmp p) where
  ok := by
    intro F G H fx ρ σ x y d e Q0 Q R h1 h2 hf q
    unfold fCmp at hf
    split at hf
    · rw [h1.int_inv, h2.int_inv]
      exact ⟨_, _, rfl, rfl, q _ hf F H _ (Same.refl F) R (.bl _)⟩
    · exact hf.elim
def fLt : F2 := fCmp fun i j => decide (i < j)
def fLe : F2 := fCmp fun i j => decide (i ≤ j)
def fGt : F2 := fCmp fun i j => decide (j < i)
def fGe : F2 := fCmp fun i j => decide (j ≤ i)
theorem es_lt (ha : ES X fx W a ma) (hb : ES X fx W b mb) : ES X fx W (.Compare a [.Lt] [b] pos) (mOp2 fLt ma mb) := pe_imp (pe_cmpR op_lt ha hb (nomark b)) fun _ _ _ h => ts_op2 snd_cmp h
theorem es_le (ha : ES X fx W a ma) (hb : ES X fx W b mb) : ES X fx W (.Compare a [.LtE] [b] pos) (mOp2 fLe ma mb) := pe_imp (pe_cmpR op_le ha hb (nomark b)) fun _ _ _ h => ts_op2 snd_cmp h
theorem es_gt (ha : ES X fx W a ma) (hb : ES X fx W b mb) : ES X fx W (.Compare a [.Gt] [b] pos) (mOp2 fGt ma mb) := pe_imp (pe_cmpR op_gt ha hb (nomark b)) fun _ _ _ h => ts_op2 snd_cmp h
theorem es_ge (ha : ES X fx W a ma) (hb : ES X fx W b mb) : ES X fx W (.Compare a [.GtE] [b] pos) (mOp2 fGe ma mb) := pe_imp (pe_cmpR op_ge ha hb (nomark b)) fun _ _ _ h => ts_op2 snd_cmp h
/-- is None -/
def D.isNon : D → Bool
  | .non => true
  | _ => false
theorem Top.isNon (h : Top K F H v d) : decide (v = V.non) = d.isNon := by
  cases h with
  | dat h => cases h <;> first | rfl | (apply decide_eq_false; intro z; cases z)
  | lst h1 h2 => apply decide_eq_false; intro z; cases z
  | ins h1 h2 => apply decide_eq_false; intro z; cases z
  | dic h1 h2 => apply decide_eq_false; intro z; cases z
def fIsN (neg : Bool) : F1 := fun d Q => Q (.v (.bl (if neg then !d.isNon else d.isNon)))
def mIsN (neg : Bool) (ma : M) : M := mOp1 (fIsN neg) ma
theorem es_isN {j} (ha : ES X fx W a ma) : ES X fx W (.Compare a [.Is] [.Constant .none j pos'] pos) (mIsN false ma) := by
  refine pe_imp (pe_cmpR op_isN ha pe_non (nomark _)) fun σ H Q ⟨F, G, ρ, Q0, X0, R, h, q, x⟩ => ⟨F, G, ρ, _, X0, R, h, fun r1 ρ1 h1 F1 H1 v1 s1 R1 k1 => ?_, x⟩
  obtain ⟨d1, e1, h1⟩ := onD_some h1
  refine ⟨rfl, ?_⟩
  rw [(k1.top R1 e1).isNon]
  exact q _ _ h1 F1 H1 _ s1 R1 (.bl _)
theorem es_notN {j} (ha : ES X fx W a ma) : ES X fx W (.Compare a [.IsNot] [.Constant .none j pos'] pos) (mIsN true ma) := by
  refine pe_imp (pe_cmpR op_notN ha pe_non (nomark _)) fun σ H Q ⟨F, G, ρ, Q0, X0, R, h, q, x⟩ => ⟨F, G, ρ, _, X0, R, h, fun r1 ρ1 h1 F1 H1 v1 s1 R1 k1 => ?_, x⟩
  obtain ⟨d1, e1, h1⟩ := onD_some h1
  refine ⟨rfl, ?_⟩
  rw [(k1.top R1 e1).isNon]
  exact q _ _ h1 F1 H1 _ s1 R1 (.bl _)
end
end BB

namespace BB
open PySem PySem.Spec PyProof.Rows L2
section
variable {X : Cx} {K : PySem.W.Frag} {F F' G H H' : Hp} {fx : List (Nat × Addr)} {W : WX} {ρ ρ' ρ1 : DE} {σ : L2.St} {pos pos' : Pos} {e a b c : Expr} {m ma mb mc : M} {mt mu : MT} {v : V} {d : D}

/-! ### in -/
def D.flat : D → Bool
  | .non => true
  | .bl _ => true
  | .int _ => true
  | .str _ => true
  | _ => false
def eqF : D → D → Bool
  | .non, .non => true
  | .bl a, .bl b => a == b
  | .bl a, .int b => (if a then 1 else 0) == b
  | .int a, .bl b => a == (if b then 1 else 0)
  | .int a, .int b => a == b
  | .str a, .str b => a == b
  | _, _ => false
theorem flat_v (h : Dat K F v d) (f : d.flat = true) : flatV v = true := by
  cases h <;> first | rfl | cases f
theorem eqF_v {w : V} {e : D} (h : Dat K F v d) (h2 : Dat K F w e) (f : d.flat = true) (f2 : e.flat = true) : eqV v w = eqF d e := by
  cases h <;> cases h2 <;> first | rfl | cases f | cases f2
theorem flats_v : ∀ {vs : List V} {ds : List D}, DatL K F vs ds → ds.all D.flat = true → vs.all flatV = true
  | _, _, .nil, _ => rfl
  | _, _, .cons h t, f => by
    rw [List.all_cons, Bool.and_eq_true] at f
    rw [List.all_cons, flat_v h f.1, flats_v t f.2]
    rfl
theorem in_v (h : Dat K F v d) (f : d.flat = true) : ∀ {vs : List V} {ds : List D}, DatL K F vs ds → ds.all D.flat = true → inV v vs = ds.any fun y => eqF y d
  | _, _, .nil, _ => rfl
  | _, _, .cons h2 t, f2 => by
    rw [List.all_cons, Bool.and_eq_true] at f2
    have ih := in_v h f t f2.2
    unfold inV at ih ⊢
    rw [List.any_cons, List.any_cons, eqF_v h2 h f2.1 f, ih]
def strIn (x y : Str) : Bool := !(Builtin.Str.occurrences y x 0 y.length 1).isEmpty
/-- x in ys: a list of plain data, a tuple of flat things, a text -/
def fIn (neg : Bool) : F2 := fun d e Q => match e with
  | .lst ys => match D.pys ys, d.py with
    | some ps, some p => (SeqAt.shaped p = true ∧ SeqAt.shaped (.list ps) = true) ∧ Q (.v (.bl (if neg then !(ps.any fun z => PyData.eqv z p) else ps.any fun z => PyData.eqv z p)))
    | _, _ => False
  | .tup ys => (d.flat = true ∧ ys.all D.flat = true) ∧ Q (.v (.bl (if neg then !(ys.any fun y => eqF y d) else ys.any fun y => eqF y d)))
  | .str y => match d with
    | .str x => Q (.v (.bl (if neg then !(strIn x y) else strIn x y)))
    | _ => False
  | _ => False
def rInA (K : PySem.W.Frag) : R2 := rOr (rInD K) (rOr (rIn K false) (fun x y H Q => ∃ i j, x = .str i ∧ y = .str j ∧ Q (.bl (!(Builtin.Str.occurrences j i 0 j.length 1).isEmpty)) H))
def rNotInA (K : PySem.W.Frag) : R2 := rOr (rNotInD K) (rOr (rIn K true) (fun x y H Q => ∃ i j, x = .str i ∧ y = .str j ∧ Q (.bl (!(!(Builtin.Str.occurrences j i 0 j.length 1).isEmpty))) H))
theorem pys_list {ys : List D} {ps : List PyData} (h : D.pys ys = some ps) : D.py (.lst ys) = some (.list ps) := by
  unfold D.py
  rw [h]
theorem Top.flat (h : Top K F H v d) (f : d.flat = true) : Dat K F v d := by
  cases h with
  | dat h => exact h
  | lst h1 h2 => cases f
  | ins h1 h2 => cases f
  | dic h1 h2 => cases f
theorem snd_in : Snd2 K (rInA K) (fIn false) where
  ok := by
    intro F G H fx ρ σ x y d e Q0 Q R h1 h2 hf q
    unfold fIn at hf
    split at hf
    · split at hf
      · rename_i ps p hps hp
        exact .inl ⟨p, ps, h1.dp R hp, h2.dp R (pys_list hps), hf.1.1, hf.1.2, q _ hf.2 F H _ (Same.refl F) R (.bl _)⟩
      · exact hf.elim
    · obtain ⟨a, vs, rfl, ha, da⟩ := h2.tup_inv R
      have hd := h1.flat hf.1.1
      refine .inr (.inl ⟨a, vs, rfl, .inr ha, flat_v hd hf.1.1, flats_v da hf.1.2, ?_⟩)
      rw [in_v hd hf.1.1 da hf.1.2]
      exact q _ hf.2 F H _ (Same.refl F) R (.bl _)
    · split at hf
      · rw [h1.str_inv, h2.str_inv]
        exact .inr (.inr ⟨_, _, rfl, rfl, q _ hf F H _ (Same.refl F) R (.bl _)⟩)
      · exact hf.elim
    · exact hf.elim
theorem snd_notin : Snd2 K (rNotInA K) (fIn true) where
  ok := by
    intro F G H fx ρ σ x y d e Q0 Q R h1 h2 hf q
    unfold fIn at hf
    split at hf
    · split at hf
      · rename_i ps p hps hp
        exact .inl ⟨p, ps, h1.dp R hp, h2.dp R (pys_list hps), hf.1.1, hf.1.2, q _ hf.2 F H _ (Same.refl F) R (.bl _)⟩
      · exact hf.elim
    · obtain ⟨a, vs, rfl, ha, da⟩ := h2.tup_inv R
      have hd := h1.flat hf.1.1
      refine .inr (.inl ⟨a, vs, rfl, .inr ha, flat_v hd hf.1.1, flats_v da hf.1.2, ?_⟩)
      rw [in_v hd hf.1.1 da hf.1.2]
      exact q _ hf.2 F H _ (Same.refl F) R (.bl _)
    · split at hf
      · rw [h1.str_inv, h2.str_inv]
        exact .inr (.inr ⟨_, _, rfl, rfl, q _ hf F H _ (Same.refl F) R (.bl _)⟩)
      · exact hf.elim
    · exact hf.elim
theorem es_in (hu : X.A.units + 65 < cLine) (ha : ES X fx W a ma) (hb : ES X fx W b mb) (hm : behindInMarks .In b = false := by rfl) : ES X fx W (.Compare a [.In] [b] pos) (mOp2 (fIn false) ma mb) :=
  pe_imp (pe_cmpR (opr_or (op_inD hu) (opr_or op_in_seq op_in_str)) ha hb hm) fun _ _ _ h => ts_op2 snd_in h
theorem es_notin (hu : X.A.units + 65 < cLine) (ha : ES X fx W a ma) (hb : ES X fx W b mb) (hm : behindInMarks .NotIn b = false := by rfl) : ES X fx W (.Compare a [.NotIn] [b] pos) (mOp2 (fIn true) ma mb) :=
  pe_imp (pe_cmpR (opr_or (op_notInD hu) (opr_or op_notIn_seq op_notIn_str)) ha hb hm) fun _ _ _ h => ts_op2 snd_notin h

/-! ### a < b < c of ints -/
def mChain (p p' : Int → Int → Bool) (ma mb mc : M) : M := fun ρ Q X => ma ρ (fun r1 ρ1 => mb ρ1 (fun r2 ρ2 => match r1.keep.at ρ2, r2.keep.at ρ2 with
  | some (.int i), some (.int j) => if p i j = true then mc ρ2 (fun r3 ρ3 => match r3.at ρ3 with
    | some (.int k) => Q (.v (.bl (p' j k))) ρ3
    | _ => False) X else Q (.v (.bl false)) ρ2
  | _, _ => False) X) X
theorem ts_chain {p p' : Int → Int → Bool} {Q : VK} (h : tS K fx W (mChain p p' ma mb mc) σ H Q) : tChain (rI0 fun i j => .bl (p i j)) (rI0 fun i j => .bl (p' i j)) (tS K fx W ma) (tS K fx W mb) (tS K fx W mc) σ H Q := by
  obtain ⟨F, G, ρ, Q0, X0, R, h, q, x⟩ := h
  refine ⟨F, G, ρ, _, X0, R, h, fun r1 ρ1 h1 F1 H1 v1 s1 R1 k1 => ?_, x⟩
  obtain ⟨F2, s2, R2, k2⟩ := k1.keep R1
  refine ⟨F2, G, ρ1, _, X0, R2, h1, fun r2 ρ2 h2 F3 H3 v2 s3 R3 k3 => ?_, x.mono (s1.trans s2)⟩
  split at h2
  · rename_i i j e1 e2
    have t1 := (RvOk.top R3 (k2 F3 H3 ρ2 s3) e1).int_inv
    obtain ⟨F4, s4, R4, k4⟩ := k3.keep R3
    have t2 := (RvOk.top R4 (k4 F4 H3 ρ2 (Same.refl F4)) e2).int_inv
    subst t1 t2
    refine ⟨i, j, rfl, rfl, _, rfl, ?_⟩
    by_cases hp : p i j = true
    · rw [if_pos hp] at h2
      rw [if_pos hp]
      refine ⟨F4, G, ρ2, _, X0, R4, h2, fun r3 ρ3 h3 F5 H5 v3 s5 R5 k5 => ?_, x.mono (((s1.trans s2).trans s3).trans s4)⟩
      split at h3
      · rename_i k e3
        have t3 := (k5.top R5 e3).int_inv
        subst t3
        exact ⟨j, k, rfl, rfl, q _ _ h3 F5 H5 _ ((((s1.trans s2).trans s3).trans s4).trans s5) R5 (.bl _)⟩
      · exact h3.elim
    · rw [if_neg hp] at h2
      rw [if_neg hp]
      exact q _ _ h2 F4 H3 _ (((s1.trans s2).trans s3).trans s4) R4 (.bl _)
  · exact h2.elim
def pLt : Int → Int → Bool := fun i j => decide (i < j)
def pLe : Int → Int → Bool := fun i j => decide (i ≤ j)
theorem es_chain_le_lt (ha : ES X fx W a ma) (hb : ES X fx W b mb) (hc : ES X fx W c mc) (hm : lastMarks [.LtE, .Lt] [b, c] = false := by with_unfolding_all rfl) :
    ES X fx W (.Compare a [.LtE, .Lt] [b, c] pos) (mChain pLe pLt ma mb mc) := pe_imp (pe_chain op_le op_lt ha hb hc hm) fun _ _ _ h => ts_chain h
theorem es_chain_le_le (ha : ES X fx W a ma) (hb : ES X fx W b mb) (hc : ES X fx W c mc) (hm : lastMarks [.LtE, .LtE] [b, c] = false := by with_unfolding_all rfl) :
    ES X fx W (.Compare a [.LtE, .LtE] [b, c] pos) (mChain pLe pLe ma mb mc) := pe_imp (pe_chain op_le op_le ha hb hc hm) fun _ _ _ h => ts_chain h

/-! ### tests -/
def D.truth : D → Option Bool
  | .non => some false
  | .bl b => some b
  | .int i => some (i != 0)
  | .str y => if y.length ≤ sizeLine then some ((y.length : Int) != 0) else none
  | .lst xs => some (!xs.isEmpty)
  | .tup xs => some (!xs.isEmpty)
  | _ => none
theorem isEmpty_dat {vs : List V} {xs : List D} (h : DatL K F vs xs) : vs.isEmpty = xs.isEmpty := by cases h <;> rfl
theorem isEmpty_datK {vs : List (Key × V)} {xs : List (Key × D)} (h : DatK K F vs xs) : vs.isEmpty = xs.isEmpty := by cases h <;> rfl
theorem Top.truth {k : Bool} (R : Rep K F G H fx ρ σ) (h : Top K F H v d) (e : d.truth = some k) : TruV K v H k := by
  cases d with
  | non => cases e; rw [h.non_inv]; rfl
  | bl b => cases e; rw [h.bl_inv]; rfl
  | int i => cases e; rw [h.int_inv]; rfl
  | str y =>
    rw [h.str_inv]
    have e' : (if y.length ≤ sizeLine then some ((y.length : Int) != 0) else none) = some k := e
    by_cases hz : y.length ≤ sizeLine
    · rw [if_pos hz] at e'
      cases e'
      exact ⟨hz, rfl⟩
    · rw [if_neg hz] at e'
      cases e'
  | lst xs =>
    cases e
    obtain ⟨a, vs, rfl, ha, da⟩ := h.lst_inv R
    exact .inl ⟨vs, SqL.of ha, by rw [isEmpty_dat da]⟩
  | tup xs =>
    cases e
    obtain ⟨a, vs, rfl, ha, da⟩ := h.tup_inv R
    exact .inr (.inl ⟨vs, ha, by rw [isEmpty_dat da]⟩)
  | ins _ _ => cases e
  | scr _ => cases e
  | dic kvs => cases e
  | xcp _ _ _ _ => cases e
  | adr _ => cases e
def mTru (ma : M) : MT := fun ρ Q X => ma ρ (fun r ρ1 => match r.at ρ1 with
  | some d => match d.truth with
    | some b => Q b ρ1
    | none => False
  | none => False) X
theorem et_val (ha : ES X fx W a ma) (he : ∀ whole, isTrue a X.env whole = (do let v ← whole; standAt a.pos; holding [v] (truthy v)) := by intro _; rfl) : ET X fx W a (mTru ma) := by
  refine pt_imp (pt_truth ha he) fun σ H Q ⟨F, G, ρ, Q0, X0, R, h, q, x⟩ => ⟨F, G, ρ, _, X0, R, h, fun r ρ1 h1 F1 H1 v1 s1 R1 k1 => ?_, x⟩
  split at h1
  · rename_i d e
    split at h1
    · rename_i b hb
      exact ⟨b, (k1.top R1 e).truth R1 hb, q _ _ h1 F1 H1 s1 R1⟩
    · exact h1.elim
  · exact h1.elim
/-- a comparison as a test -/
def mB (ma : M) : MT := fun ρ Q X => ma ρ (fun r ρ1 => match r with
  | .v (.bl b) => Q b ρ1
  | _ => False) X
theorem ts_test {Q : Bool → Hp → Prop} (h : tST K fx W (mB ma) σ H Q) : tTest (tS K fx W ma) σ H Q := by
  obtain ⟨F, G, ρ, Q0, X0, R, h, q, x⟩ := h
  refine ⟨F, G, ρ, _, X0, R, h, fun r ρ1 h1 F1 H1 v1 s1 R1 k1 => ?_, x⟩
  split at h1
  · rename_i b
    cases k1
    exact ⟨b, rfl, q _ _ h1 F1 H1 s1 R1⟩
  · exact h1.elim
theorem tTest_mono {t t' : TE} {σ : L2.St} {H : Hp} {Q : Bool → Hp → Prop} (i : ∀ σ H Q, t' σ H Q → t σ H Q) (h : tTest t' σ H Q) : tTest t σ H Q := i σ H _ h
theorem et_cmp {op : CmpOp} {r : R2} {f : F2} (S : Snd2 X.K r f) (ho : OpR X (compareOp op) r) (ha : ES X fx W a ma) (hb : ES X fx W b mb) (hm : behindInMarks op b = false) : ET X fx W (.Compare a [op] [b] pos) (mB (mOp2 f ma mb)) :=
  pt_imp (pt_cmpR ho ha hb hm) fun _ _ _ h => tTest_mono (fun _ _ _ h => ts_op2 S h) (ts_test h)
theorem et_lt (ha : ES X fx W a ma) (hb : ES X fx W b mb) : ET X fx W (.Compare a [.Lt] [b] pos) (mB (mOp2 fLt ma mb)) := et_cmp snd_cmp op_lt ha hb (nomark b)
theorem et_le (ha : ES X fx W a ma) (hb : ES X fx W b mb) : ET X fx W (.Compare a [.LtE] [b] pos) (mB (mOp2 fLe ma mb)) := et_cmp snd_cmp op_le ha hb (nomark b)
theorem et_gt (ha : ES X fx W a ma) (hb : ES X fx W b mb) : ET X fx W (.Compare a [.Gt] [b] pos) (mB (mOp2 fGt ma mb)) := et_cmp snd_cmp op_gt ha hb (nomark b)
theorem et_ge (ha : ES X fx W a ma) (hb : ES X fx W b mb) : ET X fx W (.Compare a [.GtE] [b] pos) (mB (mOp2 fGe ma mb)) := et_cmp snd_cmp op_ge ha hb (nomark b)
theorem et_eq (hu : X.A.units + 64 < cLine) (ha : ES X fx W a ma) (hb : ES X fx W b mb) : ET X fx W (.Compare a [.Eq] [b] pos) (mB (mOp2 (fEq false) ma mb)) := et_cmp snd_eq (opr_or (op_eqD hu) op_eq) ha hb (nomark b)
theorem et_ne (hu : X.A.units + 64 < cLine) (ha : ES X fx W a ma) (hb : ES X fx W b mb) : ET X fx W (.Compare a [.NotEq] [b] pos) (mB (mOp2 (fEq true) ma mb)) := et_cmp snd_ne (opr_or (op_neD hu) op_ne) ha hb (nomark b)
theorem et_in (hu : X.A.units + 65 < cLine) (ha : ES X fx W a ma) (hb : ES X fx W b mb) (hm : behindInMarks .In b = false := by rfl) : ET X fx W (.Compare a [.In] [b] pos) (mB (mOp2 (fIn false) ma mb)) :=
  et_cmp snd_in (opr_or (op_inD hu) (opr_or op_in_seq op_in_str)) ha hb hm
theorem et_notin (hu : X.A.units + 65 < cLine) (ha : ES X fx W a ma) (hb : ES X fx W b mb) (hm : behindInMarks .NotIn b = false := by rfl) : ET X fx W (.Compare a [.NotIn] [b] pos) (mB (mOp2 (fIn true) ma mb)) :=
  et_cmp snd_notin (opr_or (op_notInD hu) (opr_or op_notIn_seq op_notIn_str)) ha hb hm
theorem et_isN {j} (ha : ES X fx W a ma) : ET X fx W (.Compare a [.Is] [.Constant .none j pos'] pos) (mB (mIsN false ma)) := by
  refine pt_imp (pt_cmpR op_isN ha pe_non (nomark _)) fun σ H Q h => tTest_mono (fun σ H Q ⟨F, G, ρ, Q0, X0, R, h, q, x⟩ => ⟨F, G, ρ, _, X0, R, h, fun r1 ρ1 h1 F1 H1 v1 s1 R1 k1 => ?_, x⟩) (ts_test h)
  obtain ⟨d1, e1, h1⟩ := onD_some h1
  refine ⟨rfl, ?_⟩
  rw [(k1.top R1 e1).isNon]
  exact q _ _ h1 F1 H1 _ s1 R1 (.bl _)
theorem et_notN {j} (ha : ES X fx W a ma) : ET X fx W (.Compare a [.IsNot] [.Constant .none j pos'] pos) (mB (mIsN true ma)) := by
  refine pt_imp (pt_cmpR op_notN ha pe_non (nomark _)) fun σ H Q h => tTest_mono (fun σ H Q ⟨F, G, ρ, Q0, X0, R, h, q, x⟩ => ⟨F, G, ρ, _, X0, R, h, fun r1 ρ1 h1 F1 H1 v1 s1 R1 k1 => ?_, x⟩) (ts_test h)
  obtain ⟨d1, e1, h1⟩ := onD_some h1
  refine ⟨rfl, ?_⟩
  rw [(k1.top R1 e1).isNon]
  exact q _ _ h1 F1 H1 _ s1 R1 (.bl _)
theorem et_chain_le_lt (ha : ES X fx W a ma) (hb : ES X fx W b mb) (hc : ES X fx W c mc) (hm : lastMarks [.LtE, .Lt] [b, c] = false := by with_unfolding_all rfl) :
    ET X fx W (.Compare a [.LtE, .Lt] [b, c] pos) (mB (mChain pLe pLt ma mb mc)) := pt_imp (pt_chain op_le op_lt ha hb hc hm) fun _ _ _ h => tTest_mono (fun _ _ _ h => ts_chain h) (ts_test h)
theorem et_chain_le_le (ha : ES X fx W a ma) (hb : ES X fx W b mb) (hc : ES X fx W c mc) (hm : lastMarks [.LtE, .LtE] [b, c] = false := by with_unfolding_all rfl) :
    ET X fx W (.Compare a [.LtE, .LtE] [b, c] pos) (mB (mChain pLe pLe ma mb mc)) := pt_imp (pt_chain op_le op_le ha hb hc hm) fun _ _ _ h => tTest_mono (fun _ _ _ h => ts_chain h) (ts_test h)
def mAnd (mt mu : MT) : MT := fun ρ Q X => mt ρ (fun b ρ1 => if b = true then mu ρ1 Q X else Q false ρ1) X
def mOr (mt mu : MT) : MT := fun ρ Q X => mt ρ (fun b ρ1 => if b = true then Q true ρ1 else mu ρ1 Q X) X
def mNot (mt : MT) : MT := fun ρ Q X => mt ρ (fun b ρ1 => Q (!b) ρ1) X
theorem ew_and1 (ha : ET X fx W a mt) : EW X fx W (.BoolOp .And [a] pos) mt := pw_and1 ha
theorem ew_or1 (ha : ET X fx W a mt) : EW X fx W (.BoolOp .Or [a] pos) mt := pw_or1 ha
theorem ew_and {rest : List Expr} (ha : ET X fx W a mt) (hb : EW X fx W (.BoolOp .And (b :: rest) pos) mu) : EW X fx W (.BoolOp .And (a :: b :: rest) pos) (mAnd mt mu) := by
  refine pw_imp (pw_and ha hb) fun σ H Q ⟨F, G, ρ, Q0, X0, R, h, q, x⟩ => ⟨F, G, ρ, _, X0, R, h, fun r ρ1 h1 F1 H1 s1 R1 => ?_, x⟩
  cases r with
  | true => exact ⟨F1, G, ρ1, Q0, X0, R1, h1, fun b ρ2 h2 F2 H2 s2 R2 => q _ _ h2 F2 H2 (s1.trans s2) R2, x.mono s1⟩
  | false => exact q _ _ h1 F1 H1 s1 R1
theorem ew_or {rest : List Expr} (ha : ET X fx W a mt) (hb : EW X fx W (.BoolOp .Or (b :: rest) pos) mu) : EW X fx W (.BoolOp .Or (a :: b :: rest) pos) (mOr mt mu) := by
  refine pw_imp (pw_or ha hb) fun σ H Q ⟨F, G, ρ, Q0, X0, R, h, q, x⟩ => ⟨F, G, ρ, _, X0, R, h, fun r ρ1 h1 F1 H1 s1 R1 => ?_, x⟩
  cases r with
  | false => exact ⟨F1, G, ρ1, Q0, X0, R1, h1, fun b ρ2 h2 F2 H2 s2 R2 => q _ _ h2 F2 H2 (s1.trans s2) R2, x.mono s1⟩
  | true => exact q _ _ h1 F1 H1 s1 R1
theorem et_w (h : EW X fx W a mt) : ET X fx W a mt := PW.pt h
theorem et_not (ha : ET X fx W a mt) : ET X fx W (.UnaryOp .Not a pos) (mNot mt) :=
  pt_imp (pt_not ha) fun σ H Q ⟨F, G, ρ, Q0, X0, R, h, q, x⟩ => ⟨F, G, ρ, _, X0, R, h, fun r ρ1 h1 F1 H1 s1 R1 => q _ _ h1 F1 H1 s1 R1, x⟩
/-- and, or, not as values of bools -/
def mAndV (ma mb : M) : M := fun ρ Q X => ma ρ (fun r ρ1 => match r with
  | .v (.bl b) => if b = true then mb ρ1 Q X else Q (.v (.bl false)) ρ1
  | _ => False) X
def mOrV (ma mb : M) : M := fun ρ Q X => ma ρ (fun r ρ1 => match r with
  | .v (.bl b) => if b = true then Q (.v (.bl true)) ρ1 else mb ρ1 Q X
  | _ => False) X
theorem es_one {op} (ha : ES X fx W a ma) : ES X fx W (.BoolOp op [a] pos) ma := pe_one ha
theorem es_and {rest : List Expr} (ha : ES X fx W a ma) (hb : ES X fx W (.BoolOp .And (b :: rest) pos) mb) : ES X fx W (.BoolOp .And (a :: b :: rest) pos) (mAndV ma mb) := by
  refine pe_imp (pe_and ha hb) fun σ H Q ⟨F, G, ρ, Q0, X0, R, h, q, x⟩ => ⟨F, G, ρ, _, X0, R, h, fun r ρ1 h1 F1 H1 v1 s1 R1 k1 => ?_, x⟩
  split at h1
  · rename_i b
    cases k1
    refine ⟨b, rfl, ?_⟩
    cases b with
    | true => exact ⟨F1, G, ρ1, Q0, X0, R1, h1, fun r2 ρ2 h2 F2 H2 v2 s2 R2 k2 => q _ _ h2 F2 H2 v2 (s1.trans s2) R2 k2, x.mono s1⟩
    | false => exact q _ _ h1 F1 H1 _ s1 R1 (.bl _)
  · exact h1.elim
theorem es_or {rest : List Expr} (ha : ES X fx W a ma) (hb : ES X fx W (.BoolOp .Or (b :: rest) pos) mb) : ES X fx W (.BoolOp .Or (a :: b :: rest) pos) (mOrV ma mb) := by
  refine pe_imp (pe_or ha hb) fun σ H Q ⟨F, G, ρ, Q0, X0, R, h, q, x⟩ => ⟨F, G, ρ, _, X0, R, h, fun r ρ1 h1 F1 H1 v1 s1 R1 k1 => ?_, x⟩
  split at h1
  · rename_i b
    cases k1
    refine ⟨b, rfl, ?_⟩
    cases b with
    | false => exact ⟨F1, G, ρ1, Q0, X0, R1, h1, fun r2 ρ2 h2 F2 H2 v2 s2 R2 k2 => q _ _ h2 F2 H2 v2 (s1.trans s2) R2 k2, x.mono s1⟩
    | true => exact q _ _ h1 F1 H1 _ s1 R1 (.bl _)
  · exact h1.elim
def fNot : F1 := fun d Q => match d with
  | .bl b => Q (.v (.bl (!b)))
  | _ => False
theorem es_not (ha : ES X fx W a ma) : ES X fx W (.UnaryOp .Not a pos) (mOp1 fNot ma) := by
  refine pe_imp (pe_not ha) fun σ H Q ⟨F, G, ρ, Q0, X0, R, h, q, x⟩ => ⟨F, G, ρ, _, X0, R, h, fun r ρ1 h1 F1 H1 v1 s1 R1 k1 => ?_, x⟩
  obtain ⟨d, e, h1⟩ := onD_some h1
  unfold fNot at h1
  split at h1
  · exact ⟨_, (k1.top R1 e).bl_inv, q _ _ h1 F1 H1 _ s1 R1 (.bl _)⟩
  · exact h1.elim
def mIf (mt : MT) (ma mb : M) : M := fun ρ Q X => mt ρ (fun b ρ1 => if b = true then ma ρ1 Q X else mb ρ1 Q X) X
theorem es_if (hc : ET X fx W c mt) (ha : ES X fx W a ma) (hb : ES X fx W b mb) : ES X fx W (.IfExp c a b pos) (mIf mt ma mb) := by
  refine pe_imp (pe_ifExp hc ha hb) fun σ H Q ⟨F, G, ρ, Q0, X0, R, h, q, x⟩ => ⟨F, G, ρ, _, X0, R, h, fun r ρ1 h1 F1 H1 s1 R1 => ?_, x⟩
  cases r with
  | true => exact ⟨F1, G, ρ1, Q0, X0, R1, h1, fun r2 ρ2 h2 F2 H2 v2 s2 R2 k2 => q _ _ h2 F2 H2 v2 (s1.trans s2) R2 k2, x.mono s1⟩
  | false => exact ⟨F1, G, ρ1, Q0, X0, R1, h1, fun r2 ρ2 h2 F2 H2 v2 s2 R2 k2 => q _ _ h2 F2 H2 v2 (s1.trans s2) R2 k2, x.mono s1⟩

/-! ### displays -/
def lNil : ML := fun ρ Q _ => Q [] ρ
def lCons (m : M) (ml : ML) : ML := fun ρ Q X => m ρ (fun r ρ1 => onC (r.cap ρ1) fun d ρ2 => ml ρ2 (fun ds ρ3 => Q (d :: ds) ρ3) X) X
theorem el_nil : EL X fx W [] lNil := pa_imp pa_nil fun σ H Q ⟨F, G, ρ, Q0, X0, R, h, q, x⟩ => q _ _ h F H _ (Same.refl F) R .nil
theorem el_cons {es : List Expr} {ml : ML} (hm : ES X fx W e m) (hr : EL X fx W es ml) (he : starEach (e :: es) X.env = (false, eval e X.env) :: starEach es X.env := by rfl) : EL X fx W (e :: es) (lCons m ml) := by
  refine pa_imp (pa_cons hm hr he) fun σ H Q ⟨F, G, ρ, Q0, X0, R, h, q, x⟩ => ⟨F, G, ρ, _, X0, R, h, fun r ρ1 h1 F1 H1 v1 s1 R1 k1 => ?_, x⟩
  obtain ⟨d, ρ2, e1, h1⟩ := onC_some h1
  obtain ⟨F2, s2, R2, k2⟩ := k1.cap R1 e1
  exact ⟨F2, G, ρ2, _, X0, R2, h1, fun ds ρ3 h3 F3 H3 vs s3 R3 k3 => q _ _ h3 F3 H3 _ ((s1.trans s2).trans s3) R3 (.cons (k2.mono s3) k3), x.mono (s1.trans s2)⟩
def mLst (ml : ML) : M := fun ρ Q X => ml ρ (fun ds ρ1 => ds.length ≤ sizeLine ∧ Q (.o (.ow ds)) ρ1) X
def mTup (ml : ML) : M := fun ρ Q X => ml ρ (fun ds ρ1 => ds.length ≤ sizeLine ∧ Q (.v (.tup ds)) ρ1) X
theorem es_lst {es : List Expr} {ml : ML} (h : EL X fx W es ml) : ES X fx W (.List es pos) (mLst ml) := by
  refine pe_imp (pe_lst h) fun σ H Q ⟨F, G, ρ, Q0, X0, R, h, q, x⟩ => ⟨F, G, ρ, _, X0, R, h, fun ds ρ1 h1 F1 H1 vs s1 R1 k1 => ⟨by rw [k1.length]; exact h1.1, fun p hp => ?_⟩, x⟩
  obtain ⟨R2, k2⟩ := out_lst R1 hp k1
  exact q _ _ h1.2 F1 _ _ s1 R2 k2
theorem es_tup {es : List Expr} {ml : ML} {k} (h : EL X fx W es ml) : ES X fx W (.Tuple es k pos) (mTup ml) := by
  refine pe_imp (pe_tup h) fun σ H Q ⟨F, G, ρ, Q0, X0, R, h, q, x⟩ => ⟨F, G, ρ, _, X0, R, h, fun ds ρ1 h1 F1 H1 vs s1 R1 k1 => ⟨by rw [k1.length]; exact h1.1, fun p hp => ?_⟩, x⟩
  obtain ⟨F2, s2, R2, k2⟩ := out_tup R1 hp k1
  exact q _ _ h1.2 F2 _ _ (s1.trans s2) R2 k2

/-! ### subscripts, slices -/
def fIx : F2 := fun d e Q => match d, e with
  | .lst xs, .int i => onD (atI xs i) fun z => Q (.v z)
  | .tup xs, .int i => onD (atI xs i) fun z => Q (.v z)
  | .scr xs, .int i => onD (atI xs i) fun z => Q (.v z)
  | .str x, .int i => x.length ≤ sizeLine ∧ match atI x.cps.toList i with
    | some c => Q (.v (.str ⟨#[c]⟩))
    | none => False
  | _, _ => False
theorem atI_dat {vs : List V} {xs : List D} {i : Int} {z : D} (h : DatL K F vs xs) (e : atI xs i = some z) : ∃ v, atI vs i = some v ∧ Dat K F v z := by
  unfold atI at e ⊢
  rw [h.length]
  cases q : ixN xs.length i with
  | none => rw [q] at e; cases e
  | some j =>
    rw [q] at e
    exact h.get e
def rIxA (K : PySem.W.Frag) : R2 := rOr (rIxL K) (rOr (rIxT K) rIxS)
theorem ix_any : IxR X (rIxA X.K) := IxR.or ix_list (IxR.or ix_tup ix_str)
theorem snd_ix : Snd2 K (rIxA K) fIx where
  ok := by
    intro F G H fx ρ σ x y d e Q0 Q R h1 h2 hf q
    unfold fIx at hf
    split at hf
    · obtain ⟨z, e, hf⟩ := onD_some hf
      obtain ⟨a, vs, rfl, ha, da⟩ := h1.lst_inv R
      obtain ⟨v, hv, dv⟩ := atI_dat da e
      exact .inl ⟨a, vs, _, v, rfl, h2.int_inv, SqL.of ha, hv, q _ hf F H _ (Same.refl F) R dv⟩
    · obtain ⟨z, e, hf⟩ := onD_some hf
      obtain ⟨a, vs, rfl, ha, da⟩ := h1.tup_inv R
      obtain ⟨v, hv, dv⟩ := atI_dat da e
      exact .inr (.inl ⟨a, vs, _, v, rfl, h2.int_inv, ha, hv, q _ hf F H _ (Same.refl F) R dv⟩)
    · obtain ⟨z, e, hf⟩ := onD_some hf
      obtain ⟨a, vs, rfl, ha, da⟩ := h1.scr_inv R
      obtain ⟨v, hv, dv⟩ := atI_dat da e
      exact .inl ⟨a, vs, _, v, rfl, h2.int_inv, ha, hv, q _ hf F H _ (Same.refl F) R dv⟩
    · obtain ⟨hz, hf⟩ := hf
      split at hf
      · rename_i c hc
        exact .inr (.inr ⟨_, _, c, h1.str_inv, h2.int_inv, hz, hc, q _ hf F H _ (Same.refl F) R (.str _)⟩)
      · exact hf.elim
    · exact hf.elim
theorem es_ix (ha : ES X fx W a ma) (hb : ES X fx W b mb) (hs : PlainIx b := by exact fun _ _ => rfl) : ES X fx W (.Subscript a b pos) (mOp2 fIx ma mb) := pe_imp (pe_ix ix_any ha hb hs) fun _ _ _ h => ts_op2 snd_ix h
abbrev MO := DE → (Option Int → DE → Prop) → MX → Prop
def tSO (K : PySem.W.Frag) (fx : List (Nat × Addr)) (W : WX) (m : MO) : TO := fun σ H Q => ∃ F G ρ Q0 X0, Rep K F G H fx ρ σ ∧ m ρ Q0 X0 ∧
  (∀ r ρ', Q0 r ρ' → ∀ F' H', Same F F' → Rep K F' G H' fx ρ' σ → Q r H') ∧ XOk K G fx W F σ X0
abbrev EO (X : Cx) (fx : List (Nat × Addr)) (W : WX) (e : Option Expr) (m : MO) : Prop := PO X e (tSO X.K fx W m)
theorem po_imp {X : Cx} {e : Option Expr} {t t' : TO} (h : PO X e t) (i : ∀ σ H Q, t' σ H Q → t σ H Q) : PO X e t' := ⟨fun pins s σ H Q I q => h.run pins s σ H Q I (i σ H Q q)⟩
def oNone : MO := fun ρ Q _ => Q none ρ
def oSome (m : M) : MO := fun ρ Q X => m ρ (fun r ρ1 => match r with
  | .v (.int i) => Q (some i) ρ1
  | _ => False) X
theorem eo_none : EO X fx W none oNone := po_imp po_none fun σ H Q ⟨F, G, ρ, Q0, X0, R, h, q, x⟩ => q _ _ h F H (Same.refl F) R
theorem eo_some (ha : ES X fx W a ma) : EO X fx W (some a) (oSome ma) := by
  refine po_imp (po_some ha) fun σ H Q ⟨F, G, ρ, Q0, X0, R, h, q, x⟩ => ⟨F, G, ρ, _, X0, R, h, fun r ρ1 h1 F1 H1 v1 s1 R1 k1 => ?_, x⟩
  split at h1
  · cases k1
    exact ⟨_, rfl, q _ _ h1 F1 H1 s1 R1⟩
  · exact h1.elim
def cut {α : Type} (xs : List α) (lo hi : Option Int) : List α := (xs.drop (HT.sIx xs.length 0 lo)).take (HT.sIx xs.length xs.length hi - HT.sIx xs.length 0 lo)
/-- xs[lo:hi] of a list, of a text -/
def mSl (ma : M) (ml mh : MO) : M := fun ρ Q X => ma ρ (fun r ρ1 => ml ρ1 (fun lo ρ2 => mh ρ2 (fun hi ρ3 => match r.keep.at ρ3 with
  | some (.lst xs) => Q (.o (.ow (cut xs lo hi))) ρ3
  | some (.str x) => x.length ≤ sizeLine ∧ Q (.v (.str (cutS x lo hi))) ρ3
  | _ => False) X) X) X
theorem cut_dat {vs : List V} {xs : List D} (h : DatL K F vs xs) (lo hi : Option Int) : DatL K F (cutV vs lo hi) (cut xs lo hi) := by
  unfold cutV cut
  rw [h.length]
  exact (h.drop _).take _
theorem es_sl {lo hi : Option Expr} {ml mh : MO} {p2} (ha : ES X fx W a ma) (hl : EO X fx W lo ml) (hh : EO X fx W hi mh) : ES X fx W (.Subscript a (.Slice lo hi none p2) pos) (mSl ma ml mh) := by
  refine pe_imp (pe_slice (SlR.or sl_list sl_str) ha hl hh) fun σ H Q ⟨F, G, ρ, Q0, X0, R, h, q, x⟩ => ⟨F, G, ρ, _, X0, R, h, fun r ρ1 h1 F1 H1 v1 s1 R1 k1 => ?_, x⟩
  obtain ⟨F2, s2, R2, k2⟩ := k1.keep R1
  refine ⟨F2, G, ρ1, _, X0, R2, h1, fun lo ρ2 h2 F3 H3 s3 R3 => ?_, x.mono (s1.trans s2)⟩
  refine ⟨F3, G, ρ2, _, X0, R3, h2, fun hi ρ3 h3 F4 H4 s4 R4 => ?_, x.mono ((s1.trans s2).trans s3)⟩
  have sm := ((s1.trans s2).trans s3).trans s4
  split at h3
  · rename_i xs e
    obtain ⟨a, vs, rfl, ha, da⟩ := (RvOk.top R4 (k2 F4 H4 ρ3 (s3.trans s4)) e).lst_inv R4
    refine .inl ⟨a, vs, rfl, SqL.of ha, fun p hp => ?_⟩
    obtain ⟨R5, k5⟩ := out_lst R4 hp (cut_dat da lo hi)
    exact q _ _ h3 F4 _ _ sm R5 k5
  · rename_i y e
    rw [(RvOk.top R4 (k2 F4 H4 ρ3 (s3.trans s4)) e).str_inv]
    exact .inr ⟨y, rfl, h3.1, q _ _ h3.2 F4 H4 _ sm R4 (.str _)⟩
  · exact h3.elim

/-! ### fields -/
def fFld (C : Addr) (f : Str) : F1 := fun d Q => match d with
  | .ins C' fs => C' = C ∧ onD (fs.lookup f) fun z => Q (.v z)
  | _ => False
theorem es_fld {C : Addr} {f : Str} (hc : Cls X.K C) (hn : NoAttr X.K C f) (ha : ES X fx W a ma) (hb : attributeBase a f X.env (eval a X.env) = eval a X.env := by rfl) : ES X fx W (.Attribute a f pos) (mOp1 (fFld C f) ma) := by
  refine pe_imp (pe_fld ha hb) fun σ H Q ⟨F, G, ρ, Q0, X0, R, h, q, x⟩ => ⟨F, G, ρ, _, X0, R, h, fun r ρ1 h1 F1 H1 v1 s1 R1 k1 => ?_, x⟩
  obtain ⟨d, e, h2⟩ := onD_some h1
  unfold fFld at h2
  split at h2
  · rename_i C' fs
    obtain ⟨rfl, h3⟩ := h2
    obtain ⟨z, ez, h4⟩ := onD_some h3
    obtain ⟨a, dx, vs, rfl, ho, dv⟩ := (k1.top R1 e).ins_inv R1
    obtain ⟨v, hv, dz⟩ := dv.get ez
    exact ⟨a, _, dx, vs, v, rfl, ho, hc, hn, hv, q _ _ h4 F1 H1 v s1 R1 dz⟩
  · exact h2.elim
end
end BB

namespace BB
open PySem PySem.Spec PyProof.Rows L2

structure ME where
  nx : DE → Prop
  rt : RV → DE → Prop
  bk : DE → Prop
  ct : DE → Prop
  ex : MX
abbrev MS := DE → ME → Prop
def NOk (K : PySem.W.Frag) (G : Hp) (fx : List (Nat × Addr)) (F : Hp) (p : DE → Prop) (d : L2.St → Hp → Prop) : Prop := ∀ ρ', p ρ' → ∀ F' H' σ', Same F F' → Rep K F' G H' fx ρ' σ' → d σ' H'
structure MEOk (K : PySem.W.Frag) (G : Hp) (fx : List (Nat × Addr)) (W : WX) (F : Hp) (E0 : ME) (D : Ends) : Prop where
  nx : NOk K G fx F E0.nx D.nx
  rt : ∀ r ρ', E0.rt r ρ' → ∀ F' H' σ' v, Same F F' → Rep K F' G H' fx ρ' σ' → RvOk K F' G H' ρ' σ' r v → D.rt v H'
  bk : NOk K G fx F E0.bk D.bk
  ct : NOk K G fx F E0.ct D.ct
  ex : ∀ σ', XOk K G fx W F σ' E0.ex
def tSS (K : PySem.W.Frag) (fx : List (Nat × Addr)) (W : WX) (m : MS) : TS := fun D σ H => ∃ F G ρ E0, Rep K F G H fx ρ σ ∧ m ρ E0 ∧ MEOk K G fx W F E0 D
abbrev SS (X : Cx) (fx : List (Nat × Addr)) (W : WX) (st : Stmt) (m : MS) : Prop := PS X st (tSS X.K fx W m)
abbrev SB (X : Cx) (fx : List (Nat × Addr)) (W : WX) (st : List Stmt) (m : MS) : Prop := PSs X st (tSS X.K fx W m)
theorem ps_imp {X : Cx} {e : Stmt} {t t' : TS} (h : PS X e t) (i : ∀ D σ H, t' D σ H → t D σ H) : PS X e t' := ⟨fun pins s σ H D I q => h.run pins s σ H D I (i D σ H q)⟩
theorem pss_imp {X : Cx} {e : List Stmt} {t t' : TS} (h : PSs X e t) (i : ∀ D σ H, t' D σ H → t D σ H) : PSs X e t' := ⟨fun pins s σ H D I q => h.run pins s σ H D I (i D σ H q)⟩

section
variable {X : Cx} {K : PySem.W.Frag} {F F' G G' H H' : Hp} {fx : List (Nat × Addr)} {W : WX} {ρ ρ' ρ1 : DE} {σ : L2.St} {pos pos' : Pos} {e a b c : Expr} {m ma mb mc : M} {mt mu : MT} {ms mr : MS} {v : V} {d : D} {DD : Ends} {E0 : ME}

theorem NOk.mono {p : DE → Prop} {q : L2.St → Hp → Prop} (s : Same F F') (h : NOk K G fx F p q) : NOk K G fx F' p q := fun ρ' z F1 H' σ' s1 => h ρ' z F1 H' σ' (s.trans s1)
theorem MEOk.mono (s : Same F F') (h : MEOk K G fx W F E0 DD) : MEOk K G fx W F' E0 DD :=
  ⟨h.nx.mono s, fun r ρ' z F1 H' σ' v s1 => h.rt r ρ' z F1 H' σ' v (s.trans s1), h.bk.mono s, h.ct.mono s, fun σ' => (h.ex σ').mono s⟩

/-! ### blocks -/
def sNext : MS := fun ρ E => E.nx ρ
def sSeq (ms mr : MS) : MS := fun ρ E => ms ρ { E with nx := fun ρ' => mr ρ' E }
theorem sb_nil : SB X fx W [] sNext := pss_imp pss_nil fun D σ H ⟨F, G, ρ, E0, R, h, k⟩ => k.nx ρ h F H σ (Same.refl F) R
theorem sb_cons {st : Stmt} {rest : List Stmt} (h1 : SS X fx W st ms) (h2 : SB X fx W rest mr) : SB X fx W (st :: rest) (sSeq ms mr) :=
  pss_imp (pss_cons h1 h2) fun D σ H ⟨F, G, ρ, E0, R, h, k⟩ => ⟨F, G, ρ, _, R, h, ⟨fun ρ' z F1 H1 σ1 s1 R1 => ⟨F1, G, ρ', E0, R1, z, k.mono s1⟩, k.rt, k.bk, k.ct, k.ex⟩⟩
theorem sb_one {st : Stmt} (h1 : SS X fx W st ms) : SB X fx W [st] ms := pss_one h1
def sBreak : MS := fun ρ E => E.bk ρ
def sCont : MS := fun ρ E => E.ct ρ
theorem ss_pass : SS X fx W (.Pass pos) sNext := ps_imp ps_pass fun D σ H ⟨F, G, ρ, E0, R, h, k⟩ => k.nx ρ h F H σ (Same.refl F) R
theorem ss_break : SS X fx W (.Break pos) sBreak := ps_imp ps_break fun D σ H ⟨F, G, ρ, E0, R, h, k⟩ => k.bk ρ h F H σ (Same.refl F) R
theorem ss_continue : SS X fx W (.Continue pos) sCont := ps_imp ps_continue fun D σ H ⟨F, G, ρ, E0, R, h, k⟩ => k.ct ρ h F H σ (Same.refl F) R
def sDrop (m : M) : MS := fun ρ E => m ρ (fun _ ρ1 => E.nx ρ1) E.ex
theorem ss_expr (h : ES X fx W e m) (hs : swapsWith e none pos.line X.env = pure false := by rfl) : SS X fx W (.Expr e pos) (sDrop m) :=
  ps_imp (ps_expr h hs) fun D σ H ⟨F, G, ρ, E0, R, h, k⟩ => ⟨F, G, ρ, _, _, R, h, fun r ρ1 h1 F1 H1 v1 s1 R1 k1 => k.nx ρ1 h1 F1 H1 σ s1 R1, k.ex σ⟩
def sIf (mt : MT) (ms mr : MS) : MS := fun ρ E => mt ρ (fun b ρ1 => if b = true then ms ρ1 E else mr ρ1 E) E.ex
theorem ss_if {p q : List Stmt} (hc : ET X fx W c mt) (h1 : SB X fx W p ms) (h2 : SB X fx W q mr) : SS X fx W (.If c p q pos) (sIf mt ms mr) := by
  refine ps_imp (ps_if hc h1 h2) fun D σ H ⟨F, G, ρ, E0, R, h, k⟩ => ⟨F, G, ρ, _, _, R, h, fun r ρ1 h1 F1 H1 s1 R1 => ?_, k.ex σ⟩
  cases r with
  | true => exact ⟨F1, G, ρ1, E0, R1, h1, k.mono s1⟩
  | false => exact ⟨F1, G, ρ1, E0, R1, h1, k.mono s1⟩

/-! ### stores -/
def fxOk (fx : List (Nat × Addr)) (i : Nat) : Bool := fx.all fun p => p.1 != i
theorem Rep.setNo (R : Rep K F G H fx ρ σ) (i : Nat) : Rep K F G H fx (ρ.set i .no) σ := by
  have aux : ∀ j b, Owns (ρ.set i .no) σ j b → Owns ρ σ j b := fun j b ⟨x, q, z⟩ => by
    rcases set_get? q with ⟨rfl, rfl⟩ | ⟨hj, q⟩
    · exact z.elim
    · exact ⟨x, q, z⟩
  refine ⟨R.fh, R.gh, R.fg, by rw [List.length_set]; exact R.len, fun j x q => ?_, fun j k b q1 q2 => R.nd j k b (aux j b q1) (aux k b q2), R.fix⟩
  rcases set_get? q with ⟨rfl, rfl⟩ | ⟨hj, q⟩
  · trivial
  · exact R.sl j x q
theorem fx_ne {i : Nat} (hf : fxOk fx i = true) : ∀ p, p ∈ fx → p.1 ≠ i := fun p hp => by
  have h := List.all_eq_true.mp hf p hp
  simpa using h
theorem Rep.setFz {i : Nat} (R : Rep K F G H fx ρ σ) (h : Dat K F v d) (hf : fxOk fx i = true) : Rep K F G H fx (ρ.set i (.fz d)) (σ.set i (some v)) := by
  have aux : ∀ j b, Owns (ρ.set i (.fz d)) (σ.set i (some v)) j b → Owns ρ σ j b := fun j b ⟨x, q, z⟩ => by
    rcases set_get? q with ⟨rfl, rfl⟩ | ⟨hj, q⟩
    · exact z.elim
    · exact ⟨x, q, by rw [List.getElem?_set_ne (Ne.symm hj)] at z; exact z⟩
  refine ⟨R.fh, R.gh, R.fg, by rw [List.length_set, List.length_set]; exact R.len, fun j x q => ?_, fun j k b q1 q2 => R.nd j k b (aux j b q1) (aux k b q2), fun p hp => ?_⟩
  · by_cases hj : j = i
    · subst hj
      have hl : j < ρ.length := by
        have := (List.getElem?_eq_some_iff.mp q).1
        rw [List.length_set] at this
        exact this
      rw [List.getElem?_set_self hl] at q
      cases q
      exact ⟨v, List.getElem?_set_self (by rw [← R.len]; exact hl), h⟩
    · rw [List.getElem?_set_ne (Ne.symm hj)] at q
      rw [List.getElem?_set_ne (Ne.symm hj)]
      exact R.sl j x q
  · rw [List.getElem?_set_ne (Ne.symm (fx_ne hf p hp))]
    exact R.fix p hp
theorem Rep.setOw {i : Nat} {s : SV} (R : Rep K F G H fx ρ σ) (h : RvOk K F G H ρ σ (.o s) v) (hf : fxOk fx i = true) : Rep K F G H fx (ρ.set i s) (σ.set i (some v)) := by
  obtain ⟨hs, a, o, rfl, h1, h2, h3, h4, h5⟩ := h
  have aux : ∀ j b, Owns (ρ.set i s) (σ.set i (some (.ref a))) j b → (j = i ∧ b = a) ∨ Owns ρ σ j b := fun j b ⟨x, q, z⟩ => by
    rcases set_get? q with ⟨rfl, rfl⟩ | ⟨hj, q⟩
    · have hl : j < ρ.length := by
        have := (List.getElem?_eq_some_iff.mp q).1
        rw [List.length_set] at this
        exact this
      have z := (SV.at_own hs).mp z
      rw [List.getElem?_set_self (by rw [← R.len]; exact hl)] at z
      cases z
      exact .inl ⟨rfl, rfl⟩
    · exact .inr ⟨x, q, by rw [List.getElem?_set_ne (Ne.symm hj)] at z; exact z⟩
  refine ⟨R.fh, R.gh, R.fg, by rw [List.length_set, List.length_set]; exact R.len, fun j x q => ?_, fun j k b q1 q2 => ?_, fun p hp => ?_⟩
  · by_cases hj : j = i
    · subst hj
      have hl : j < ρ.length := by
        have := (List.getElem?_eq_some_iff.mp q).1
        rw [List.length_set] at this
        exact this
      rw [List.getElem?_set_self hl] at q
      cases q
      exact SlOk.of_own hs ⟨a, o, List.getElem?_set_self (by rw [← R.len]; exact hl), h1, h2, h3, h4⟩
    · rw [List.getElem?_set_ne (Ne.symm hj)] at q
      rw [List.getElem?_set_ne (Ne.symm hj)]
      exact R.sl j x q
  · rcases aux j b q1 with ⟨rfl, rfl⟩ | z1
    · rcases aux k b q2 with ⟨rfl, _⟩ | z2
      · rfl
      · exact absurd z2 (h5 k)
    · rcases aux k b q2 with ⟨rfl, rfl⟩ | z2
      · exact absurd z1 (h5 j)
      · exact R.nd j k b z1 z2
  · rw [List.getElem?_set_ne (Ne.symm (fx_ne hf p hp))]
    exact R.fix p hp
theorem Rep.setTr {i : Nat} {s : SV} (R : Rep K F G H fx ρ σ) (h : RvOk K F G H ρ σ (.t s) v) (hf : fxOk fx i = true) : Rep K F G H fx (ρ.set i s) (σ.set i (some v)) := by
  obtain ⟨h1, h2⟩ := h
  have aux : ∀ j b, Owns (ρ.set i s) (σ.set i (some v)) j b → (j = i ∧ s.at (some (some v)) b) ∨ Owns ρ σ j b := fun j b ⟨x, q, z⟩ => by
    rcases set_get? q with ⟨rfl, rfl⟩ | ⟨hj, q⟩
    · have hl : j < ρ.length := by
        have := (List.getElem?_eq_some_iff.mp q).1
        rw [List.length_set] at this
        exact this
      rw [List.getElem?_set_self (by rw [← R.len]; exact hl)] at z
      exact .inl ⟨rfl, z⟩
    · exact .inr ⟨x, q, by rw [List.getElem?_set_ne (Ne.symm hj)] at z; exact z⟩
  refine ⟨R.fh, R.gh, R.fg, by rw [List.length_set, List.length_set]; exact R.len, fun j x q => ?_, fun j k b q1 q2 => ?_, fun p hp => ?_⟩
  · by_cases hj : j = i
    · subst hj
      have hl : j < ρ.length := by
        have := (List.getElem?_eq_some_iff.mp q).1
        rw [List.length_set] at this
        exact this
      rw [List.getElem?_set_self hl] at q
      cases q
      rw [List.getElem?_set_self (by rw [← R.len]; exact hl)]
      exact h1
    · rw [List.getElem?_set_ne (Ne.symm hj)] at q
      rw [List.getElem?_set_ne (Ne.symm hj)]
      exact R.sl j x q
  · rcases aux j b q1 with ⟨rfl, z1⟩ | z1
    · rcases aux k b q2 with ⟨rfl, _⟩ | z2
      · rfl
      · exact absurd z2 (h2 b z1 k)
    · rcases aux k b q2 with ⟨rfl, z2⟩ | z2
      · exact absurd z1 (h2 b z2 j)
      · exact R.nd j k b z1 z2
  · rw [List.getElem?_set_ne (Ne.symm (fx_ne hf p hp))]
    exact R.fix p hp
/-- a result is bound to the slot i -/
def bindR (i : Nat) (r : RV) (ρ : DE) (k : DE → Prop) : Prop := match r with
  | .o s => k (ρ.set i s)
  | .t s => k (ρ.set i s)
  | r => onC (r.cap ρ) fun d ρ2 => k (ρ2.set i (.fz d))
theorem bindR_ok {i : Nat} {r : RV} {p : DE → Prop} {q : L2.St → Hp → Prop} (hf : fxOk fx i = true) (R : Rep K F G H fx ρ σ) (k : RvOk K F G H ρ σ r v) (h : bindR i r ρ p) (n : NOk K G fx F p q) : q (σ.set i (some v)) H := by
  cases r with
  | o s => exact n _ h F H _ (Same.refl F) (R.setOw k hf)
  | t s => exact n _ h F H _ (Same.refl F) (R.setTr k hf)
  | gr j a => exact h.elim
  | v d' =>
    have h' : onC ((RV.v d').cap ρ) (fun d ρ2 => p (ρ2.set i (.fz d))) := h
    obtain ⟨d, ρ2, e, h2⟩ := onC_some h'
    obtain ⟨F2, s2, R2, k2⟩ := k.cap R e
    exact n _ h2 F2 H _ s2 (R2.setFz k2 hf)
  | sl j =>
    have h' : onC ((RV.sl j).cap ρ) (fun d ρ2 => p (ρ2.set i (.fz d))) := h
    obtain ⟨d, ρ2, e, h2⟩ := onC_some h'
    obtain ⟨F2, s2, R2, k2⟩ := k.cap R e
    exact n _ h2 F2 H _ s2 (R2.setFz k2 hf)
def sSet (i : Nat) (m : M) : MS := fun ρ E => m ρ (fun r ρ1 => bindR i r ρ1 E.nx) E.ex
theorem ts_set {i : Nat} (hf : fxOk fx i = true) {σ : L2.St} {H : Hp} (h : tSS K fx W (sSet i m) DD σ H) : tAsg (tS K fx W m) (gName i) DD σ H := by
  obtain ⟨F, G, ρ, E0, R, h, k⟩ := h
  exact ⟨F, G, ρ, _, _, R, h, fun r ρ1 h1 F1 H1 v1 s1 R1 k1 => bindR_ok hf R1 k1 h1 (k.nx.mono s1), k.ex σ⟩
theorem ss_set (i : Nat) {x : Str} {pos' : Pos} (hN : X.N.Nodup) (h : ES X fx W e m) (hi : X.N[i]? = some x := by rfl) (hx : Loc X.env.scope x := by first | exact Or.inl rfl | exact Or.inr rfl) (hf : fxOk fx i = true := by rfl)
    (hs : swapsWith e (some (.Name x pos')) pos.line X.env = pure false := by rfl) (hfn : X.fn x = true ∨ X.env.scope.names.lookup x = some .local := by first | exact .inl rfl | exact .inr rfl | assumption) :
    SS X fx W (.Assign [.Name x pos'] e pos) (sSet i m) := ps_imp (ps_set hN hi hx h hs hfn) fun D σ H h => ts_set hf h
/-- return -/
def sRet (m : M) : MS := fun ρ E => m ρ (fun r ρ1 => match r with
  | .sl i => match ρ1[i]? with
    | some (.fz d) => E.rt (.v d) ρ1
    | some .no => False
    | some (.tr s g) => E.rt (.t (.tr s g)) (ρ1.set i .no)
    | some s => E.rt (.o s) (ρ1.set i .no)
    | none => False
  | r => E.rt r ρ1) E.ex
theorem ss_ret (h : ES X fx W e m) : SS X fx W (.Return (some e) pos) (sRet m) := by
  refine ps_imp (ps_ret h) fun D σ H ⟨F, G, ρ, E0, R, h, k⟩ => ⟨F, G, ρ, _, _, R, h, fun r ρ1 h1 F1 H1 v1 s1 R1 k1 => ?_, k.ex σ⟩
  have own : ∀ (i : Nat) (s : SV), ρ1[i]? = some s → s.own = true → RvOk X.K F1 G H1 ρ1 σ (.sl i) v1 → RvOk X.K F1 G H1 (ρ1.set i .no) σ (.o s) v1 := fun i s e1 e2 k1 => by
    have hv : σ[i]? = some (some v1) := k1
    obtain ⟨a, o, q1, q2, q3, q4, q5⟩ := (R1.sl i s e1).own e2
    rw [hv] at q1
    cases q1
    refine ⟨e2, a, o, rfl, q2, q3, q4, q5, fun j ⟨x, z1, z3⟩ => ?_⟩
    rcases set_get? z1 with ⟨rfl, rfl⟩ | ⟨hj, z1⟩
    · exact z3.elim
    · exact hj (R1.nd j i a ⟨x, z1, z3⟩ (.of e1 e2 hv))
  cases r with
  | v d => exact k.rt _ _ h1 F1 H1 σ v1 s1 R1 k1
  | o s => exact k.rt _ _ h1 F1 H1 σ v1 s1 R1 k1
  | t s => exact k.rt _ _ h1 F1 H1 σ v1 s1 R1 k1
  | gr j a => exact k.rt _ _ h1 F1 H1 σ v1 s1 R1 k1
  | sl i =>
    have hv : σ[i]? = some (some v1) := k1
    simp only at h1
    cases e1 : ρ1[i]? with
    | none => rw [e1] at h1; exact h1.elim
    | some s =>
      rw [e1] at h1
      cases s with
      | no => exact h1.elim
      | fz d =>
        obtain ⟨u, q1, q2⟩ := R1.sl i _ e1
        rw [hv] at q1
        cases q1
        exact k.rt _ _ h1 F1 H1 σ v1 s1 R1 q2
      | ow xs => exact k.rt _ _ h1 F1 H1 σ v1 s1 (R1.setNo i) (own i _ e1 rfl k1)
      | oi c fs => exact k.rt _ _ h1 F1 H1 σ v1 s1 (R1.setNo i) (own i _ e1 rfl k1)
      | od kvs => exact k.rt _ _ h1 F1 H1 σ v1 s1 (R1.setNo i) (own i _ e1 rfl k1)
      | tr s g =>
        have hs := R1.sl i _ e1
        rw [hv] at hs
        refine k.rt _ _ h1 F1 H1 σ v1 s1 (R1.setNo i) ⟨hs, fun a ha j ⟨x, z1, z3⟩ => ?_⟩
        rcases set_get? z1 with ⟨rfl, rfl⟩ | ⟨hj, z1⟩
        · exact z3.elim
        · exact hj (R1.nd j i a ⟨x, z1, z3⟩ ⟨_, e1, by rw [hv]; exact ha⟩)
def sRetN : MS := fun ρ E => E.rt (.v .non) ρ
theorem ss_retN : SS X fx W (.Return none pos) sRetN := ps_imp ps_retN fun D σ H ⟨F, G, ρ, E0, R, h, k⟩ => k.rt _ _ h F H σ .non (Same.refl F) R .non

/-! ### targets -/
abbrev MG := D → DE → (DE → Prop) → Prop
abbrev MGs := List D → DE → (DE → Prop) → Prop
/-- alike but at some slots -/
def Off (ts : List Nat) (σ σ' : L2.St) : Prop := σ.length = σ'.length ∧ ∀ i : Nat, i ∉ ts → σ'[i]? = σ[i]?
theorem Off.refl (ts : List Nat) (σ : L2.St) : Off ts σ σ := ⟨rfl, fun _ _ => rfl⟩
theorem Off.set {i : Nat} {x : Option V} : Off [i] σ (σ.set i x) := ⟨by rw [List.length_set], fun j hj => by rw [List.getElem?_set_ne (fun e => hj (by rw [e]; exact List.mem_singleton.mpr rfl))]⟩
theorem Off.comp {ts us : List Nat} {σ1 σ2 : L2.St} (h : Off ts σ σ1) (k : Off us σ1 σ2) : Off (ts ++ us) σ σ2 :=
  ⟨h.1.trans k.1, fun i hi => (k.2 i fun z => hi (List.mem_append_right _ z)).trans (h.2 i fun z => hi (List.mem_append_left _ z))⟩
def NOkW (K : PySem.W.Frag) (G : Hp) (fx : List (Nat × Addr)) (F : Hp) (ts : List Nat) (σ : L2.St) (p : DE → Prop) (d : L2.St → Hp → Prop) : Prop := ∀ ρ', p ρ' → ∀ F' H' σ', Same F F' → Off ts σ σ' → Rep K F' G H' fx ρ' σ' → d σ' H'
theorem NOk.w {ts : List Nat} {p : DE → Prop} {q : L2.St → Hp → Prop} (h : NOk K G fx F p q) : NOkW K G fx F ts σ p q := fun ρ' z F1 H' σ' s1 _ => h ρ' z F1 H' σ' s1
theorem NOkW.mono {ts : List Nat} {p : DE → Prop} {q : L2.St → Hp → Prop} (s : Same F F') (h : NOkW K G fx F ts σ p q) : NOkW K G fx F' ts σ p q := fun ρ' z F1 H' σ' s1 => h ρ' z F1 H' σ' (s.trans s1)
def tSG (K : PySem.W.Frag) (fx : List (Nat × Addr)) (ts : List Nat) (m : MG) : TG := fun v σ H Q => ∃ F G ρ d p, Rep K F G H fx ρ σ ∧ Dat K F v d ∧ m d ρ p ∧ NOkW K G fx F ts σ p Q
def tSGs (K : PySem.W.Frag) (fx : List (Nat × Addr)) (ts : List Nat) (m : MGs) : TGs := fun v σ H Q => ∃ F G ρ d p, Rep K F G H fx ρ σ ∧ DatL K F v d ∧ m d ρ p ∧ NOkW K G fx F ts σ p Q
abbrev EG (X : Cx) (fx : List (Nat × Addr)) (ts : List Nat) (e : Expr) (m : MG) : Prop := PG X e (tSG X.K fx ts m)
abbrev EGs (X : Cx) (fx : List (Nat × Addr)) (ts : List Nat) (e : List Expr) (m : MGs) : Prop := PGs X e (tSGs X.K fx ts m)
theorem pg_imp {X : Cx} {e : Expr} {t t' : TG} (h : PG X e t) (i : ∀ v σ H Q, t' v σ H Q → t v σ H Q) : PG X e t' := ⟨fun pins s σ H v u Q I r q => h.run pins s σ H v u Q I r (i v σ H Q q)⟩
theorem pgs_imp {X : Cx} {e : List Expr} {t t' : TGs} (h : PGs X e t) (i : ∀ v σ H Q, t' v σ H Q → t v σ H Q) : PGs X e t' := ⟨fun pins s σ H v u Q I r q => h.run pins s σ H v u Q I r (i v σ H Q q)⟩
def gN (i : Nat) : MG := fun d ρ p => p (ρ.set i (.fz d))
theorem eg_name (i : Nat) {x : Str} (hN : X.N.Nodup) (hi : X.N[i]? = some x := by rfl) (hx : Loc X.env.scope x := by first | exact Or.inl rfl | exact Or.inr rfl) (hf : fxOk fx i = true := by rfl)
    (hfn : X.fn x = true ∨ X.env.scope.names.lookup x = some .local := by first | exact .inl rfl | exact .inr rfl | assumption) : EG X fx [i] (.Name x pos) (gN i) :=
  pg_imp (pg_name hN hi hx hfn) fun v σ H Q ⟨F, G, ρ, d, p, R, h, z, n⟩ => n _ z F H _ (Same.refl F) Off.set (R.setFz h hf)
def gN0 : MGs := fun ds ρ p => ds = [] ∧ p ρ
def gNC (g : MG) (gs : MGs) : MGs := fun ds ρ p => match ds with
  | d :: r => g d ρ fun ρ1 => gs r ρ1 p
  | [] => False
theorem egs_nil : EGs X fx [] [] gN0 := pgs_imp pgs_nil fun v σ H Q ⟨F, G, ρ, d, p, R, h, z, n⟩ => by
  obtain ⟨rfl, z⟩ := z
  cases h
  exact ⟨rfl, n _ z F H _ (Same.refl F) (Off.refl _ _) R⟩
theorem egs_cons {g : MG} {gs : MGs} {es : List Expr} {ts us : List Nat} (h1 : EG X fx ts e g) (h2 : EGs X fx us es gs)
    (hs : (assignEach (e :: es) X.env).map (·.2) = assign e X.env :: (assignEach es X.env).map (·.2) := by rfl) : EGs X fx (ts ++ us) (e :: es) (gNC g gs) :=
  pgs_imp (pgs_cons h1 h2 hs) fun v σ H Q ⟨F, G, ρ, d, p, R, h, z, n⟩ => by
    cases h with
    | nil => exact z.elim
    | cons h t => exact ⟨_, _, rfl, F, G, ρ, _, _, R, h, z, fun ρ1 z1 F1 H1 σ1 s1 o1 R1 => ⟨F1, G, ρ1, _, p, R1, t.mono s1, z1, fun ρ2 z2 F2 H2 σ2 s2 o2 R2 => n _ z2 F2 H2 σ2 (s1.trans s2) (o1.comp o2) R2⟩⟩
/-- a tuple or a list unpacked -/
def gT (k : Nat) (gs : MGs) : MG := fun d ρ p => match d with
  | .tup ds => ds.length = k ∧ gs ds ρ p
  | .lst ds => ds.length = k ∧ gs ds ρ p
  | _ => False
theorem eg_tup {gs : MGs} {es : List Expr} {k n : Nat} {ts : List Nat} (hc : X.calm = true) (h : EGs X fx ts es gs) (hn : (assignEach es X.env).length = n := by rfl) (hst : (assignEach es X.env).findIdx? (·.1) = none := by rfl) : EG X fx ts (.Tuple es k pos) (gT n gs) := by
  refine ⟨fun pins s σ H v u Q I r z => ?_⟩
  obtain ⟨F, G, ρ, d, p, R, h', z, nn⟩ := z
  unfold gT at z
  split at z
  · cases h' with
    | tup h1 h2 => exact (pg_tup (pos := pos) (k := k) hc h hn hst).run pins s σ H _ u Q I r ⟨_, _, rfl, R.fh.sqT h1, by rw [h2.length]; exact z.1, F, G, ρ, _, p, R, h2, z.2, nn⟩
  · cases h' with
    | lst h1 h2 => exact (pg_unl (pos := pos) (k := k) hc h hn hst).run pins s σ H _ u Q I r ⟨_, _, rfl, SqL.of (R.fh.lst h1), by rw [h2.length]; exact z.1, F, G, ρ, _, p, R, h2, z.2, nn⟩
  · exact z.elim
/-- target = e, the target a tuple -/
def sAsg (g : MG) (m : M) : MS := fun ρ E => m ρ (fun r ρ1 => onC (r.cap ρ1) fun d ρ2 => g d ρ2 E.nx) E.ex
theorem ss_asg {tg : Expr} {g : MG} {ts : List Nat} (h : ES X fx W e m) (hg : EG X fx ts tg g) (hs : swapsWithSole [tg] e pos.line X.env = pure false := by rfl) (hw : swappedStores [tg] e X.env = pure none := by rfl)
    (h1 : (assignEach [tg] X.env).map (·.2) = [assign tg X.env] := by rfl) : SS X fx W (.Assign [tg] e pos) (sAsg g m) :=
  ps_imp (ps_asg h hg hs hw h1) fun D σ H ⟨F, G, ρ, E0, R, h, k⟩ => ⟨F, G, ρ, _, _, R, h, fun r ρ1 h1 F1 H1 v1 s1 R1 k1 => by
    obtain ⟨d, ρ2, e, h2⟩ := onC_some h1
    obtain ⟨F2, s2, R2, k2⟩ := k1.cap R1 e
    exact ⟨F2, G, ρ2, d, _, R2, k2, h2, (k.nx.mono (s1.trans s2)).w⟩, k.ex σ⟩

/-! ### a, b = x, y -/
abbrev MR := DE → (List RV → DE → Prop) → MX → Prop
open Classical in
noncomputable def gx (r : RV) (v : V) (G H : Hp) : Hp := match r, v with
  | .o _, .ref a => match H a with
    | some o => upd G a o
    | none => G
  | .t s, v => fun b => if s.at (some (some v)) b then H b else G b
  | _, _ => G
theorem gx_t_at {s : SV} {v : V} {G H : Hp} {b : Addr} (h : s.at (some (some v)) b) : gx (.t s) v G H b = H b := by
  cases v <;> exact if_pos h
theorem gx_t_off {s : SV} {v : V} {G H : Hp} {b : Addr} (h : ¬ s.at (some (some v)) b) : gx (.t s) v G H b = G b := by
  cases v <;> exact if_neg h
def RvsOk (K : PySem.W.Frag) (F H : Hp) (ρ : DE) (σ : L2.St) : Hp → List RV → List V → Prop
  | _, [], [] => True
  | G, r :: rs, v :: vs => ((∀ i, r ≠ .sl i) ∧ ∀ j a, r ≠ .gr j a) ∧ RvOk K F G H ρ σ r v ∧ RvsOk K F H ρ σ (gx r v G H) rs vs
  | _, _, _ => False
def tSR (K : PySem.W.Frag) (fx : List (Nat × Addr)) (W : WX) (m : MR) : TA := fun σ H Q => ∃ F G ρ Q0 X0, Rep K F G H fx ρ σ ∧ m ρ Q0 X0 ∧
  (∀ rs ρ', Q0 rs ρ' → ∀ F' H' vs, Same F F' → Rep K F' G H' fx ρ' σ → RvsOk K F' H' ρ' σ G rs vs → Q vs H') ∧ XOk K G fx W F σ X0
abbrev ER (X : Cx) (fx : List (Nat × Addr)) (W : WX) (es : List Expr) (m : MR) : Prop := PA X es (tSR X.K fx W m)
/-- a fresh cell joins the foreign -/
theorem Rep.lend {s : SV} (R : Rep K F G H fx ρ σ) (k : RvOk K F G H ρ σ (.o s) v) : Same G (gx (.o s) v G H) ∧ Rep K F (gx (.o s) v G H) H fx ρ σ := by
  obtain ⟨hs, a, o, rfl, h1, h2, h3, h4, h5⟩ := k
  have e : gx (.o s) (.ref a) G H = upd G a o := by simp only [gx, h1]
  rw [e]
  have sm : Same G (upd G a o) := fun b u q => by rw [upd_ne (ne_of_none q h3)]; exact q
  refine ⟨sm, R.fh, fun b u q => ?_, fun b u q => ?_, R.len, fun j x q => ?_, R.nd, R.fix⟩
  · by_cases hb : b = a
    · subst hb; rw [upd_same] at q; cases q; exact h1
    · rw [upd_ne hb] at q; exact R.gh _ _ q
  · by_cases hb : b = a
    · subst hb; rw [h2] at q; cases q
    · rw [upd_ne hb]; exact R.fg _ _ q
  · refine (R.sl j x q).move (Same.refl F) fun b hb => ?_
    obtain ⟨u, k1, k2, k3, _⟩ := (R.sl j x q).cell hb
    have ne : b ≠ a := fun z => h5 j ⟨x, q, by rw [← z]; exact hb⟩
    exact ⟨k2, by rw [upd_ne ne]; exact k3, rfl⟩
/-- the cells of a fresh tree join the foreign -/
theorem Rep.lendT {s : SV} (R : Rep K F G H fx ρ σ) (k : RvOk K F G H ρ σ (.t s) v) : Same G (gx (.t s) v G H) ∧ Rep K F (gx (.t s) v G H) H fx ρ σ := by
  obtain ⟨h0, h1⟩ := k
  have sm : Same G (gx (.t s) v G H) := fun b u q => by
    by_cases hb : s.at (some (some v)) b
    · obtain ⟨o, _, _, z, _⟩ := h0.cell hb
      rw [z] at q; cases q
    · rw [gx_t_off hb]; exact q
  refine ⟨sm, R.fh, fun b u q => ?_, fun b u q => ?_, R.len, fun j x q => ?_, R.nd, R.fix⟩
  · by_cases hb : s.at (some (some v)) b
    · rw [gx_t_at hb] at q; exact q
    · rw [gx_t_off hb] at q; exact R.gh _ _ q
  · by_cases hb : s.at (some (some v)) b
    · obtain ⟨o, _, z, _, _⟩ := h0.cell hb
      rw [z] at q; cases q
    · rw [gx_t_off hb]; exact R.fg _ _ q
  · refine (R.sl j x q).move (Same.refl F) fun b hb => ?_
    obtain ⟨u, k1, k2, k3, _⟩ := (R.sl j x q).cell hb
    have ne : ¬ s.at (some (some v)) b := fun z => h1 b z j ⟨x, q, hb⟩
    exact ⟨k2, by rw [gx_t_off ne]; exact k3, rfl⟩
/-- less is foreign -/
theorem Rep.less (s : Same G G') (R : Rep K F G' H fx ρ σ) : Rep K F G H fx ρ σ := by
  refine ⟨R.fh, s.trans R.gh, R.fg.less s, R.len, fun j x q => (R.sl j x q).move (Same.refl F) fun b hb => ?_, R.nd, R.fix⟩
  obtain ⟨u, k1, k2, k3, _⟩ := (R.sl j x q).cell hb
  exact ⟨k2, s.free k3, rfl⟩
theorem RvOk.less {r : RV} (s : Same G G') (k : RvOk K F G' H ρ σ r v) : RvOk K F G H ρ σ r v := by
  cases r with
  | v d => exact k
  | sl i => exact k
  | o x => obtain ⟨h0, a, o, h1, h2, h3, h4, h5⟩ := k; exact ⟨h0, a, o, h1, h2, h3, s.free h4, h5⟩
  | gr j a => exact k
  | t x =>
    obtain ⟨h0, h1⟩ := k
    refine ⟨h0.move (Same.refl F) fun a ha => ?_, h1⟩
    obtain ⟨o, k2, k3, k4, _⟩ := h0.cell ha
    exact ⟨k3, s.free k4, rfl⟩
theorem NOk.more {p : DE → Prop} {q : L2.St → Hp → Prop} (sg : Same G G') (h : NOk K G fx F p q) : NOk K G' fx F p q := fun ρ' z F1 H' σ' s1 R => h ρ' z F1 H' σ' s1 (R.less sg)
theorem XOk.more {X0 : MX} (sg : Same G G') (h : XOk K G fx W F σ X0) : XOk K G' fx W F σ X0 := fun c d ρ' x F1 H' v dx s1 R hd dd hf hg => h c d ρ' x F1 H' v dx s1 (R.less sg) hd dd hf (sg.free hg)
theorem MEOk.more {E0 : ME} {DD : Ends} (sg : Same G G') (h : MEOk K G fx W F E0 DD) : MEOk K G' fx W F E0 DD :=
  ⟨h.nx.more sg, fun r ρ' z F1 H' σ' v s1 R kv => h.rt r ρ' z F1 H' σ' v s1 (R.less sg) (kv.less sg), h.bk.more sg, h.ct.more sg, fun σ' => (h.ex σ').more sg⟩
/-- a fresh cell that was lent comes back -/
theorem RvOk.back {s : SV} {σ' : L2.St} (k : RvOk K F G H ρ σ (.o s) v) (sm : Same F F') (R : Rep K F' (gx (.o s) v G H) H' fx ρ' σ') : RvOk K F' G H' ρ' σ' (.o s) v ∧ gx (.o s) v G H = gx (.o s) v G H' := by
  obtain ⟨hs, a, o, rfl, h1, h2, h3, h4, h5⟩ := k
  have e : gx (.o s) (.ref a) G H = upd G a o := by simp only [gx, h1]
  rw [e] at R
  have ha : H' a = some o := R.gh _ _ upd_same
  refine ⟨⟨hs, a, o, rfl, ha, ?_, h3, h4.mono sm, fun i hi => ?_⟩, by simp only [gx, h1, ha]⟩
  · cases q : F' a with
    | none => rfl
    | some u =>
      rcases R.fg _ _ q with z | ⟨_, _, _, z⟩
      · rw [upd_same] at z
        cases z
      · rw [upd_same] at z
        cases z
        cases s <;> exact h4.elim
  · obtain ⟨_, _, _, z, _⟩ := R.ownH hi
    rw [upd_same] at z
    cases z
/-- a fresh tree that was lent comes back -/
theorem RvOk.backT {s : SV} {σ' : L2.St} (k : RvOk K F G H ρ σ (.t s) v) (sm : Same F F') (R : Rep K F' (gx (.t s) v G H) H' fx ρ' σ') : RvOk K F' G H' ρ' σ' (.t s) v ∧ gx (.t s) v G H = gx (.t s) v G H' := by
  obtain ⟨h0, h1⟩ := k
  have key : ∀ a, s.at (some (some v)) a → F' a = none ∧ G a = none ∧ H' a = H a ∧ ∀ i, ¬ Owns ρ' σ' i a := fun a ha => by
    obtain ⟨o, k1, k2, k3, k4⟩ := h0.cell ha
    have g : gx (.t s) v G H a = some o := by rw [gx_t_at ha]; exact k1
    refine ⟨?_, k3, by rw [k1]; exact R.gh _ _ g, fun i hi => ?_⟩
    · cases q : F' a with
      | none => rfl
      | some u =>
        rcases R.fg _ _ q with z | ⟨_, _, _, z⟩
        · rw [g] at z; cases z
        · rw [g] at z
          cases z
          exact k4.elim
    · obtain ⟨_, _, _, z, _⟩ := R.ownH hi
      rw [g] at z; cases z
  refine ⟨⟨h0.move sm fun a ha => ⟨(key a ha).1, (key a ha).2.1, (key a ha).2.2.1⟩, fun a ha => (key a ha).2.2.2⟩, ?_⟩
  funext b
  by_cases hb : s.at (some (some v)) b
  · rw [gx_t_at hb, gx_t_at hb, (key b hb).2.2.1]
  · rw [gx_t_off hb, gx_t_off hb]
def rNil : MR := fun ρ Q _ => Q [] ρ
/-- an item keeps its own cell -/
def onR (r : RV) (ρ : DE) (k : RV → DE → Prop) : Prop := match r with
  | .o s => k (.o s) ρ
  | .t s => k (.t s) ρ
  | r => onC (r.cap ρ) fun d ρ2 => k (.v d) ρ2
def rCons (m : M) (mr : MR) : MR := fun ρ Q X => m ρ (fun r ρ1 => onR r ρ1 fun r' ρ2 => mr ρ2 (fun rs ρ3 => Q (r' :: rs) ρ3) X) X
theorem onR_ok {r : RV} {k : RV → DE → Prop} (R : Rep K F G H fx ρ σ) (z : RvOk K F G H ρ σ r v) (h : onR r ρ k) : ∃ r' ρ2 F2, k r' ρ2 ∧ Same F F2 ∧ Rep K F2 G H fx ρ2 σ ∧ RvOk K F2 G H ρ2 σ r' v ∧ (∀ i, r' ≠ .sl i) ∧ ∀ j a, r' ≠ .gr j a := by
  cases r with
  | o s => exact ⟨_, _, F, h, Same.refl F, R, z, (fun i q => nomatch q), fun j a q => nomatch q⟩
  | gr j a => exact h.elim
  | t s => exact ⟨_, _, F, h, Same.refl F, R, z, (fun i q => nomatch q), fun j a q => nomatch q⟩
  | v d' =>
    have h' : onC ((RV.v d').cap ρ) (fun d ρ2 => k (.v d) ρ2) := h
    obtain ⟨d, ρ2, e, h2⟩ := onC_some h'
    obtain ⟨F2, s2, R2, k2⟩ := z.cap R e
    exact ⟨_, _, F2, h2, s2, R2, k2, (fun i q => nomatch q), fun j a q => nomatch q⟩
  | sl j =>
    have h' : onC ((RV.sl j).cap ρ) (fun d ρ2 => k (.v d) ρ2) := h
    obtain ⟨d, ρ2, e, h2⟩ := onC_some h'
    obtain ⟨F2, s2, R2, k2⟩ := z.cap R e
    exact ⟨_, _, F2, h2, s2, R2, k2, (fun i q => nomatch q), fun j a q => nomatch q⟩
theorem er_nil : ER X fx W [] rNil := pa_imp pa_nil fun σ H Q ⟨F, G, ρ, Q0, X0, R, h, q, x⟩ => q _ _ h F H _ (Same.refl F) R trivial
theorem XOk.less {X0 : MX} (s : Same G G') (x : XOk K G fx W F σ X0) : XOk K G' fx W F σ X0 := fun c d ρ' z F1 H1 v dx s1 R1 hd dd hf hg => x c d ρ' z F1 H1 v dx s1 (R1.less s) hd dd hf (s.free hg)
theorem er_cons {es : List Expr} {mr : MR} (hm : ES X fx W e m) (hr : ER X fx W es mr) (he : starEach (e :: es) X.env = (false, eval e X.env) :: starEach es X.env := by rfl) : ER X fx W (e :: es) (rCons m mr) := by
  refine pa_imp (pa_cons hm hr he) fun σ H Q ⟨F, G, ρ, Q0, X0, R, h, q, x⟩ => ⟨F, G, ρ, _, X0, R, h, fun r ρ1 h1 F1 H1 v1 s1 R1 k1 => ?_, x⟩
  obtain ⟨r', ρ2, F2, h2, s2, R2, k2, hr'⟩ := onR_ok R1 k1 h1
  cases r' with
  | sl i => exact absurd rfl (hr'.1 i)
  | t s =>
    obtain ⟨sg, R2'⟩ := R2.lendT k2
    refine ⟨F2, _, ρ2, _, X0, R2', h2, fun rs ρ3 h3 F3 H3 vs s3 R3 k3 => ?_, (x.mono (s1.trans s2)).less sg⟩
    obtain ⟨b1, b2⟩ := k2.backT s3 R3
    exact q _ _ h3 F3 H3 _ ((s1.trans s2).trans s3) (R3.less sg) ⟨hr', b1, by rw [b2] at k3; exact k3⟩
  | gr j a => exact absurd rfl (hr'.2 j a)
  | v d =>
    exact ⟨F2, G, ρ2, _, X0, R2, h2, fun rs ρ3 h3 F3 H3 vs s3 R3 k3 => q _ _ h3 F3 H3 _ ((s1.trans s2).trans s3) R3 ⟨hr', Dat.mono s3 k2, k3⟩, x.mono (s1.trans s2)⟩
  | o s =>
    obtain ⟨sg, R2'⟩ := R2.lend k2
    refine ⟨F2, _, ρ2, _, X0, R2', h2, fun rs ρ3 h3 F3 H3 vs s3 R3 k3 => ?_, (x.mono (s1.trans s2)).less sg⟩
    obtain ⟨b1, b2⟩ := k2.back s3 R3
    exact q _ _ h3 F3 H3 _ ((s1.trans s2).trans s3) (R3.less sg) ⟨hr', b1, by rw [b2] at k3; exact k3⟩
/-- bound to slots, one behind the other -/
def bindRs : List Nat → List RV → DE → (DE → Prop) → Prop
  | [], [], ρ, k => k ρ
  | i :: is, r :: rs, ρ, k => bindR i r ρ fun ρ1 => bindRs is rs ρ1 k
  | _, _, _, _ => False
end
end BB

namespace BB
open PySem PySem.Spec PyProof.Rows L2
section
variable {X : Cx} {K : PySem.W.Frag} {F F' G G' H H' : Hp} {fx : List (Nat × Addr)} {W : WX} {ρ ρ' ρ1 : DE} {σ σ' : L2.St} {pos pos' : Pos} {e a b c : Expr} {m ma mb mc : M} {mt mu : MT} {ms mr : MS} {v : V} {d : D} {DD : Ends} {E0 : ME}

/-! ### a, b = x, y by swapped stores -/
theorem gx_same {r : RV} (k : RvOk K F G H ρ σ r v) : Same G (gx r v G H) := by
  cases r with
  | v d => exact Same.refl G
  | sl i => exact Same.refl G
  | t s =>
    intro b u q
    by_cases hb : s.at (some (some v)) b
    · obtain ⟨o, _, _, z, _⟩ := k.1.cell hb
      rw [z] at q; cases q
    · rw [gx_t_off hb]; exact q
  | gr _ _ => exact Same.refl G
  | o s =>
    obtain ⟨hs, a, o, rfl, h1, h2, h3, h4, h5⟩ := k
    have e : gx (.o s) (.ref a) G H = upd G a o := by simp only [gx, h1]
    rw [e]
    exact fun b u q => by rw [upd_ne (ne_of_none q h3)]; exact q
theorem gx_mono {r : RV} (s : Same G G') (h : ∀ a, v = .ref a → G' a = none ∨ ∀ s, r ≠ .o s) : Same (gx r v G H) (gx r v G' H) := by
  cases r with
  | v d => exact s
  | sl i => exact s
  | t x =>
    intro b u q
    by_cases hb : x.at (some (some v)) b
    · rw [gx_t_at hb] at q ⊢; exact q
    · rw [gx_t_off hb] at q ⊢; exact s _ _ q
  | gr _ _ => exact s
  | o x =>
    cases v with
    | ref a =>
      cases e : H a with
      | none =>
        have z : ∀ G, gx (.o x) (.ref a) G H = G := fun G => by simp only [gx, e]
        rw [z, z]
        exact s
      | some o =>
        have z : ∀ G, gx (.o x) (.ref a) G H = upd G a o := fun G => by simp only [gx, e]
        rw [z, z]
        intro b u q
        by_cases hb : b = a
        · subst hb; rw [upd_same] at q; cases q; exact upd_same
        · rw [upd_ne hb] at q; rw [upd_ne hb]; exact s _ _ q
    | _ => exact s
theorem RvsOk.move : ∀ {rs : List RV} {vs : List V} {G G' : Hp}, RvsOk K F H ρ σ G' rs vs → Same G G' → (∀ i b, Owns ρ' σ' i b → (∃ j, Owns ρ σ j b) ∨ ∃ o, G' b = some o) → RvsOk K F H ρ' σ' G rs vs
  | [], [], _, _, _, _, _ => trivial
  | [], _ :: _, _, _, h, _, _ => h
  | _ :: _, [], _, _, h, _, _ => h
  | r :: rs, v :: vs, G, G', ⟨h1, h2, h3⟩, s, k => by
    refine ⟨h1, ?_, RvsOk.move h3 (gx_mono s fun a ha => ?_) fun i b q => ?_⟩
    · cases r with
      | v d => exact h2
      | sl i => exact absurd rfl (h1.1 i)
      | t x =>
        obtain ⟨z1, z2⟩ := h2
        refine ⟨z1.move (Same.refl F) fun a ha => ?_, fun a ha i q => ?_⟩
        · obtain ⟨o, k1, k2, k3, _⟩ := z1.cell ha
          exact ⟨k2, s.free k3, rfl⟩
        · obtain ⟨o, k1, k2, k3, _⟩ := z1.cell ha
          rcases k i a q with ⟨j, q⟩ | ⟨o', q⟩
          · exact z2 a ha j q
          · rw [k3] at q; cases q
      | gr j a => exact absurd rfl (h1.2 j a)
      | o x =>
        obtain ⟨hs, a, o, rfl, z1, z2, z3, z4, z5⟩ := h2
        refine ⟨hs, a, o, rfl, z1, z2, s.free z3, z4, fun i q => ?_⟩
        rcases k i a q with ⟨j, q⟩ | ⟨o', q⟩
        · exact z5 j q
        · rw [z3] at q; cases q
    · cases r with
      | v d => exact .inr fun s q => nomatch q
      | sl i => exact .inr fun s q => nomatch q
      | t x => exact .inr fun s q => nomatch q
      | gr j a => exact absurd rfl (h1.2 j a)
      | o x =>
        obtain ⟨hs, a', o, e, z1, z2, z3, z4, z5⟩ := h2
        rw [ha] at e
        cases e
        exact .inl z3
    · rcases k i b q with q | ⟨o, q⟩
      · exact .inl q
      · exact .inr ⟨o, gx_same h2 _ _ q⟩
def setAll : List Nat → List V → L2.St → L2.St
  | i :: is, v :: vs, σ => setAll is vs (σ.set i (some v))
  | _, _, σ => σ
theorem bindRs_ok {p : DE → Prop} {q : L2.St → Hp → Prop} (n : NOk K G fx F p q) : ∀ {is : List Nat} {rs : List RV} {vs : List V} {ρ : DE} {σ : L2.St}, is.all (fxOk fx) = true → Rep K F G H fx ρ σ → RvsOk K F H ρ σ G rs vs → bindRs is rs ρ p →
    vs.length = is.length ∧ q (setAll is vs σ) H
  | [], [], [], ρ, σ, _, R, _, h => ⟨rfl, n _ h F H σ (Same.refl F) R⟩
  | [], [], _ :: _, _, _, _, _, h, _ => h.elim
  | [], _ :: _, _, _, _, _, _, _, h => h.elim
  | _ :: _, [], _, _, _, _, _, _, h => h.elim
  | _ :: _, _ :: _, [], _, _, _, _, h, _ => h.elim
  | i :: is, r :: rs, v :: vs, ρ, σ, hf, R, ⟨h1, h2, h3⟩, h => by
    rw [List.all_cons, Bool.and_eq_true] at hf
    cases r with
    | sl j => exact absurd rfl (h1.1 j)
    | t s =>
      have R2 := R.setTr (i := i) h2 hf.1
      have sg := gx_same (ρ := ρ) (σ := σ) h2
      obtain ⟨z1, z2⟩ := bindRs_ok n hf.2 R2 (RvsOk.move h3 sg fun j b ⟨x, q, z⟩ => by
        rcases set_get? q with ⟨rfl, rfl⟩ | ⟨hj, q⟩
        · have hl : j < ρ.length := by
            have := (List.getElem?_eq_some_iff.mp q).1
            rw [List.length_set] at this
            exact this
          rw [List.getElem?_set_self (by rw [← R.len]; exact hl)] at z
          obtain ⟨o, k1, _⟩ := h2.1.cell z
          exact .inr ⟨o, by rw [gx_t_at z]; exact k1⟩
        · exact .inl ⟨j, x, q, by rw [List.getElem?_set_ne (Ne.symm hj)] at z; exact z⟩) h
      exact ⟨by rw [List.length_cons, List.length_cons, z1], z2⟩
    | gr j a => exact absurd rfl (h1.2 j a)
    | v d =>
      have R2 := R.setFz (i := i) h2 hf.1
      obtain ⟨z1, z2⟩ := bindRs_ok n hf.2 R2 (RvsOk.move h3 (Same.refl G) fun j b ⟨x, q, z⟩ => by
        rcases set_get? q with ⟨rfl, rfl⟩ | ⟨hj, q⟩
        · exact z.elim
        · exact .inl ⟨j, x, q, by rw [List.getElem?_set_ne (Ne.symm hj)] at z; exact z⟩) h
      exact ⟨by rw [List.length_cons, List.length_cons, z1], z2⟩
    | o s =>
      have R2 := R.setOw (i := i) h2 hf.1
      have sg := gx_same (ρ := ρ) (σ := σ) h2
      obtain ⟨hs, a, o, rfl, y1, y2, y3, y4, y5⟩ := id h2
      have eg : gx (.o s) (.ref a) G H = upd G a o := by simp only [gx, y1]
      obtain ⟨z1, z2⟩ := bindRs_ok n hf.2 R2 (RvsOk.move h3 sg fun j b ⟨x, q, z⟩ => by
        rcases set_get? q with ⟨rfl, rfl⟩ | ⟨hj, q⟩
        · have hl : j < ρ.length := by
            have := (List.getElem?_eq_some_iff.mp q).1
            rw [List.length_set] at this
            exact this
          have z := (SV.at_own hs).mp z
          rw [List.getElem?_set_self (by rw [← R.len]; exact hl)] at z
          cases z
          exact .inr ⟨o, by rw [eg]; exact upd_same⟩
        · exact .inl ⟨j, x, q, by rw [List.getElem?_set_ne (Ne.symm hj)] at z; exact z⟩) h
      exact ⟨by rw [List.length_cons, List.length_cons, z1], z2⟩
def sPar (is : List Nat) (m : MR) : MS := fun ρ E => m ρ (fun rs ρ1 => bindRs is rs ρ1 E.nx) E.ex
theorem ss_par2 (i j : Nat) {x y : Str} {px py pt : Pos} {kt k2 pt2} {mr : MR} (hc : X.calm = true) (hN : X.N.Nodup) (hm : ER X fx W [a, b] mr) (hi : X.N[i]? = some x := by rfl) (hj : X.N[j]? = some y := by rfl) (hij : i ≠ j := by decide)
    (hx : X.env.scope.names.lookup x = some .local := by rfl) (hy : X.env.scope.names.lookup y = some .local := by rfl) (hf : [i, j].all (fxOk fx) = true := by rfl)
    (hw : swappedStores [.Tuple [.Name x px, .Name y py] kt pt] (.Tuple [a, b] k2 pt2) X.env = pure (some [x, y]) := by rfl)
    (hs : swapsWithSole [.Tuple [.Name x px, .Name y py] kt pt] (.Tuple [a, b] k2 pt2) pos.line X.env = pure false := by rfl) :
    SS X fx W (.Assign [.Tuple [.Name x px, .Name y py] kt pt] (.Tuple [a, b] k2 pt2) pos) (sPar [i, j] mr) := by
  refine ps_imp (ps_par hc hN hi hj hij hx hy hm hw hs) fun D σ H ⟨F, G, ρ, E0, R, h, k⟩ => ⟨F, G, ρ, _, _, R, h, fun rs ρ1 h1 F1 H1 vs s1 R1 k1 => ?_, k.ex σ⟩
  obtain ⟨z1, z2⟩ := bindRs_ok (k.nx.mono s1) hf R1 k1 h1
  match vs, z1, z2 with
  | [v, w], _, z2 => exact ⟨v, w, rfl, z2⟩
theorem ss_par3 (i j l : Nat) {x y z : Str} {px py pz pt : Pos} {kt k2 pt2} {mr : MR} (hc : X.calm = true) (hN : X.N.Nodup) (hm : ER X fx W [a, b, c] mr) (hi : X.N[i]? = some x := by rfl) (hj : X.N[j]? = some y := by rfl) (hl : X.N[l]? = some z := by rfl)
    (hij : i ≠ j := by decide) (hil : i ≠ l := by decide) (hjl : j ≠ l := by decide)
    (hx : X.env.scope.names.lookup x = some .local := by rfl) (hy : X.env.scope.names.lookup y = some .local := by rfl) (hz : X.env.scope.names.lookup z = some .local := by rfl) (hf : [i, j, l].all (fxOk fx) = true := by rfl)
    (hw : swappedStores [.Tuple [.Name x px, .Name y py, .Name z pz] kt pt] (.Tuple [a, b, c] k2 pt2) X.env = pure (some [x, y, z]) := by rfl)
    (hs : swapsWithSole [.Tuple [.Name x px, .Name y py, .Name z pz] kt pt] (.Tuple [a, b, c] k2 pt2) pos.line X.env = pure false := by rfl) :
    SS X fx W (.Assign [.Tuple [.Name x px, .Name y py, .Name z pz] kt pt] (.Tuple [a, b, c] k2 pt2) pos) (sPar [i, j, l] mr) := by
  refine ps_imp (L2.ps_par3 hc hN hi hj hl hij hil hjl hx hy hz hm hw hs) fun D σ H ⟨F, G, ρ, E0, R, h, k⟩ => ⟨F, G, ρ, _, _, R, h, fun rs ρ1 h1 F1 H1 vs s1 R1 k1 => ?_, k.ex σ⟩
  obtain ⟨z1, z2⟩ := bindRs_ok (k.nx.mono s1) hf R1 k1 h1
  match vs, z1, z2 with
  | [u, v, w], _, z2 => exact ⟨u, v, w, rfl, z2⟩

/-! ### what is walked -/
/-- things alone that are walked -/
def FzO (Gd : Hp) : Prop := ∀ a o, Gd a = some o → ∃ x u, o = .frz x u
def hp0 : Hp := fun _ => none
theorem fz0 : FzO hp0 := fun _ _ e => by cases e
theorem sd0 {G : Hp} : Same hp0 G := fun _ _ e => by cases e
structure ItD (K : PySem.W.Frag) (F G : Hp) (J : It) (xs : List D) : Prop where
  go : ∀ i H, SF F H → Same G H → i < xs.length → J.go i H
  stop : ∀ H, SF F H → Same G H → J.stop xs.length H
  yld : ∀ i H x H', SF F H → Same G H → i < xs.length → J.yld i H x H' → ∃ d, xs[i]? = some d ∧ ((H' = H ∧ Dat K F x d) ∨ ∃ p o, x = .ref p ∧ H p = none ∧ H' = upd H p o ∧ ∀ F', Same F F' → F' p = some o → Dat K F' x d)
theorem ItD.mono {J : It} {xs : List D} (s : Same F F') (h : ItD K F G J xs) : ItD K F' G J xs :=
  ⟨fun i H q => h.go i H (q.sub s), fun H q => h.stop H (q.sub s), fun i H x H' q qg hi y => by
    obtain ⟨d, e, z⟩ := h.yld i H x H' (q.sub s) qg hi y
    refine ⟨d, e, ?_⟩
    rcases z with ⟨z1, z2⟩ | ⟨p, o, z1, z2, z3, z4⟩
    · exact .inl ⟨z1, z2.mono s⟩
    · exact .inr ⟨p, o, z1, z2, z3, fun F2 s2 => z4 F2 (s.trans s2)⟩⟩
def tSI (K : PySem.W.Frag) (fx : List (Nat × Addr)) (W : WX) (m : ML) : TI := fun σ H R => ∃ F G ρ Q0 X0, Rep K F G H fx ρ σ ∧ m ρ Q0 X0 ∧
  (∀ xs ρ', Q0 xs ρ' → ∀ F' G' Gd H' J, Same F F' → Same G G' → FzO Gd → Same Gd G' → Rep K F' G' H' fx ρ' σ → ItD K F' Gd J xs → R J H') ∧ XOk K G fx W F σ X0
abbrev EI (X : Cx) (fx : List (Nat × Addr)) (W : WX) (tg e : Expr) (m : ML) : Prop := PI X tg e (tSI X.K fx W m)
theorem pi_imp {X : Cx} {tg e : Expr} {t t' : TI} (h : PI X tg e t) (i : ∀ σ H Q, t' σ H Q → t σ H Q) : PI X tg e t' := ⟨fun pins s σ H R I q => h.run pins s σ H R I (i σ H R q)⟩
theorem itd_list {p : Addr} {vs : List V} {xs : List D} (h : F p = some (.lst vs)) (dv : DatL K F vs xs) : ItD K F G (Itl K p) xs where
  go := fun i H s _ hi => by
    obtain ⟨d, hd⟩ : ∃ d, xs[i]? = some d := ⟨xs[i], by simp [hi]⟩
    obtain ⟨v, hv, _⟩ := dv.get hd
    exact ⟨vs, v, SqL.of (s.lst h), hv⟩
  stop := fun H s _ => ⟨vs, SqL.of (s.lst h), by rw [dv.length]; exact Nat.le_refl _⟩
  yld := fun i H x H' s _ hi y => by
    obtain ⟨rfl, hx⟩ := y
    have hv := hx vs (SqL.of (s.lst h))
    obtain ⟨d, hd, dd⟩ := dv.getv hv
    exact ⟨d, hd, .inl ⟨rfl, dd⟩⟩
theorem itd_tup {p : Addr} {vs : List V} {xs : List D} (h : SqT K F p vs) (dv : DatL K F vs xs) : ItD K F G (Itt K p) xs where
  go := fun i H s _ hi => by
    obtain ⟨d, hd⟩ : ∃ d, xs[i]? = some d := ⟨xs[i], by simp [hi]⟩
    obtain ⟨v, hv, _⟩ := dv.get hd
    exact ⟨vs, v, s.sqT h, hv⟩
  stop := fun H s _ => ⟨vs, s.sqT h, by rw [dv.length]; exact Nat.le_refl _⟩
  yld := fun i H x H' s _ hi y => by
    obtain ⟨rfl, hx⟩ := y
    have hv := hx vs (s.sqT h)
    obtain ⟨d, hd, dd⟩ := dv.getv hv
    exact ⟨d, hd, .inl ⟨rfl, dd⟩⟩
def signs (z : Str) : List D := z.cps.toList.map fun c => .str ⟨#[c]⟩
theorem itd_str (z : Str) : ItD K F G (Its z) (signs z) where
  go := fun i H s _ hi => by unfold signs at hi; show i < z.cps.size; simpa using hi
  stop := fun H s _ => by unfold signs; show z.cps.size ≤ _; simp
  yld := fun i H x H' s _ hi y => by
    obtain ⟨rfl, c, hc, rfl⟩ := y
    exact ⟨.str ⟨#[c]⟩, by unfold signs; rw [List.getElem?_map, Array.getElem?_toList, hc]; rfl, .inl ⟨rfl, .str _⟩⟩
def rangeD (lo : Int) (n : Nat) : List D := (List.range n).map fun i => .int (lo + (i : Nat))
theorem itd_range (lo : Int) (n : Nat) : ItD K F G (Itr lo n) (rangeD lo n) where
  go := fun i H s _ hi => by unfold rangeD at hi; show i < n; simpa using hi
  stop := fun H s _ => by unfold rangeD; show n ≤ _; simp
  yld := fun i H x H' s _ hi y => by
    obtain ⟨rfl, rfl⟩ := y
    have hi' : i < n := by unfold rangeD at hi; simpa using hi
    exact ⟨.int (lo + (i : Nat)), by unfold rangeD; rw [List.getElem?_map, List.getElem?_range hi']; rfl, .inl ⟨rfl, .int _⟩⟩
def keyD : Key → D
  | .inl i => .int i
  | .inr z => .str z
/-- a list, a tuple, a text, a dict is walked -/
def iSeq (m : M) : ML := fun ρ Q X => m ρ (fun r ρ1 => onC (r.cap ρ1) fun d ρ2 => match d with
  | .lst xs => Q xs ρ2
  | .tup xs => Q xs ρ2
  | .str z => Q (signs z) ρ2
  | .dic kvs => Q (kvs.map fun kv => keyD kv.1) ρ2
  | _ => False) X
theorem DatK.getv : ∀ {vs : List (Key × V)} {ds : List (Key × D)} {i : Nat} {k : Key} {v : V}, DatK K F vs ds → vs[i]? = some (k, v) → ∃ d, ds[i]? = some (k, d) ∧ Dat K F v d
  | _, _, _, _, _, .nil, e => by simp at e
  | _, _, 0, _, _, .cons h _, e => by simp at e; obtain ⟨rfl, rfl⟩ := e; exact ⟨_, rfl, h⟩
  | _, _, i + 1, k, v, .cons _ t, e => by
    obtain ⟨d, h1, h2⟩ := DatK.getv (i := i) (k := k) (v := v) t (by simpa using e)
    exact ⟨d, by simpa using h1, h2⟩
theorem DatK.len : ∀ {vs : List (Key × V)} {ds : List (Key × D)}, DatK K F vs ds → vs.length = ds.length
  | _, _, .nil => rfl
  | _, _, .cons _ t => by rw [List.length_cons, List.length_cons, t.len]
def oneG (p : Addr) (u : HO) : Hp := fun b => if b = p then some u else none
theorem oneG_at {p : Addr} {u : HO} : oneG p u p = some u := if_pos rfl
theorem oneG_fz {p : Addr} {x : Obj} {u : HO} : FzO (oneG p (.frz x u)) := fun a o e => by
  by_cases h : a = p
  · subst h
    rw [oneG_at] at e
    cases e
    exact ⟨_, _, rfl⟩
  · have e' : (if a = p then some (HO.frz x u) else none) = some o := e
    rw [if_neg h] at e'
    cases e'
theorem oneG_same {p : Addr} {u : HO} (h : G p = some u) : Same (oneG p u) G := fun a o e => by
  by_cases hp : a = p
  · subst hp
    rw [oneG_at] at e
    cases e
    exact h
  · have e' : (if a = p then some u else none) = some o := e
    rw [if_neg hp] at e'
    cases e'
theorem itd_keys {p : Addr} {x : Obj} {vs : List (Key × V)} {kvs : List (Key × D)} (dv : DatK K F vs kvs) : ItD K F (oneG p (.frz x (.dK vs))) (Itk p x vs) (kvs.map fun kv => keyD kv.1) where
  go := fun i H _ s hi => ⟨s _ _ oneG_at, by rw [dv.len]; simpa using hi⟩
  stop := fun H _ s => ⟨s _ _ oneG_at, by rw [dv.len, List.length_map]; exact Nat.le_refl _⟩
  yld := fun i H y H' _ s hi h => by
    obtain ⟨rfl, k, v, hk, rfl⟩ := h
    obtain ⟨d, hd, _⟩ := dv.getv hk
    refine ⟨keyD k, by rw [List.getElem?_map, hd]; rfl, .inl ⟨rfl, ?_⟩⟩
    cases k with
    | inl i => exact .int i
    | inr z => exact .str z
/-- a frozen dict is walked: it stands so from now on -/
theorem Rep.lock {p : Addr} {x : Obj} {vs : List (Key × V)} (R : Rep K F G H fx ρ σ) (hF : F p = some (.dK vs)) (hH : H p = some (.dK vs)) : Same G (upd G p (.frz x (.dK vs))) ∧ Rep K F (upd G p (.frz x (.dK vs))) (upd H p (.frz x (.dK vs))) fx ρ σ := by
  have hG : G p = none := by
    rcases R.fg _ _ hF with z | ⟨y, _, _, z⟩
    · exact z
    · have w := R.gh _ _ z
      rw [hH] at w
      cases w
  refine ⟨fun b o e => by rw [upd_ne (ne_of_none e hG)]; exact e, fun b o e => ?_, fun b o e => ?_, fun b o e => ?_, R.len, fun j s q => ?_, R.nd, R.fix⟩
  · by_cases hb : b = p
    · subst hb
      rw [hF] at e
      cases e
      exact .inr ⟨x, vs, rfl, upd_same⟩
    · rw [upd_ne hb]; exact R.fh _ _ e
  · by_cases hb : b = p
    · subst hb; rw [upd_same] at e ⊢; exact e
    · rw [upd_ne hb] at e ⊢; exact R.gh _ _ e
  · by_cases hb : b = p
    · subst hb
      rw [hF] at e
      cases e
      exact .inr ⟨x, vs, rfl, upd_same⟩
    · rw [upd_ne hb]; exact R.fg _ _ e
  · refine (R.sl j s q).move (Same.refl F) fun a ha => ?_
    obtain ⟨o, k1, k2, k3, _⟩ := (R.sl j s q).cell ha
    have hb : a ≠ p := fun z => by rw [z, hF] at k2; cases k2
    exact ⟨k2, by rw [upd_ne hb]; exact k3, by rw [upd_ne hb]⟩
/-- it stands so already -/
theorem Rep.locked {p : Addr} {x : Obj} {vs : List (Key × V)} (R : Rep K F G H fx ρ σ) (hF : F p = some (.dK vs)) (hH : H p = some (.frz x (.dK vs))) : ∃ G', Same G G' ∧ G' p = some (.frz x (.dK vs)) ∧ Rep K F G' H fx ρ σ := by
  rcases R.fg _ _ hF with hG | ⟨y, _, _, z⟩
  · refine ⟨upd G p (.frz x (.dK vs)), fun b o e => by rw [upd_ne (ne_of_none e hG)]; exact e, upd_same, R.fh, fun b o e => ?_, fun b o e => ?_, R.len, fun j s q => ?_, R.nd, R.fix⟩
    · by_cases hb : b = p
      · subst hb; rw [upd_same] at e; cases e; exact hH
      · rw [upd_ne hb] at e; exact R.gh _ _ e
    · by_cases hb : b = p
      · subst hb
        rw [hF] at e
        cases e
        exact .inr ⟨x, vs, rfl, upd_same⟩
      · rw [upd_ne hb]; exact R.fg _ _ e
    · refine (R.sl j s q).move (Same.refl F) fun a ha => ?_
      obtain ⟨o, k1, k2, k3, _⟩ := (R.sl j s q).cell ha
      have hb : a ≠ p := fun z => by rw [z, hF] at k2; cases k2
      exact ⟨k2, by rw [upd_ne hb]; exact k3, rfl⟩
  · have w := R.gh _ _ z
    rw [hH] at w
    cases w
    exact ⟨G, Same.refl G, z, R⟩
/-- what stands at a value is walked: its kind is seen when it has come -/
def iAny (K : PySem.W.Frag) (te : TE) : TI := fun σ H R => te σ H fun x H1 => (∃ p, x = .ref p ∧ (∃ ys, SqL K H1 p ys) ∧ R (Itl K p) H1) ∨ (∃ p, x = .ref p ∧ (∃ ys, SqT K H1 p ys) ∧ R (Itt K p) H1) ∨ (∃ z, x = .str z ∧ R (Its z) H1) ∨
  ∃ p kvs, x = .ref p ∧ ((H1 p = some (.dK kvs) ∧ ∀ o, R (Itk p o kvs) (upd H1 p (.frz o (.dK kvs)))) ∨ ∃ o, H1 p = some (.frz o (.dK kvs)) ∧ R (Itk p o kvs) H1)
theorem pi_any {tg l : Expr} {te : TE} (hl : PE X l te) : PI X tg l (iAny X.K te) := by
  constructor
  intro pins s σ H R I h
  refine thn (hl.run pins s σ H _ I h) fun v s1 hv => ?_
  obtain ⟨x, H1, I1, r1, q1⟩ := hv
  rcases q1 with ⟨p, rfl, ⟨ys, hy⟩, q⟩ | ⟨p, rfl, ⟨ys, hy⟩, q⟩ | ⟨z, rfl, q⟩ | ⟨p, kvs, rfl, q⟩
  · have r1' : v = Value.ref p := r1
    subst r1'
    obtain ⟨its, _, pl, _⟩ := I1.list hy
    exact wpAny_pyIter_list pl.isList (pi_one (tk := s1.toks) I1 _ (turn_list p _) ⟨_, Heap.get?_push_size _ rfl, rfl, rfl⟩ q)
  · have r1' : v = Value.ref p := r1
    subst r1'
    obtain ⟨its, _, pl, _⟩ := I1.tuple hy
    exact wpAny_pyIter_tuple pl (pi_one (tk := s1.toks) I1 _ (turn_tuple p _) ⟨_, Heap.get?_push_size _ rfl, rfl, rfl⟩ q)
  · obtain ⟨t, rfl⟩ := r1
    cases hw : z.cps.all (· < 128) with
    | false => exact wpAny_pyIter_wide hw (pi_one (tk := s1.toks) I1 _ (turn_str _ z t "str_iterator" (.inr rfl)) ⟨_, Heap.get?_push_size _ rfl, rfl, rfl⟩ q)
    | true => exact wpAny_pyIter_ascii hw (pi_one (tk := s1.toks) I1 _ (turn_str _ z t "str_ascii_iterator" (.inl rfl)) ⟨_, Heap.get?_push_size _ rfl, rfl, rfl⟩ q)
  · have r1' : v = Value.ref p := r1
    subst r1'
    have go : ∀ (o : Obj) (H2 : Hp), Inv X pins σ H2 s1 → H2 p = some (.frz o (.dK kvs)) → R (Itk p o kvs) H2 → wpAny (model X.prog X.w) X.A (pyIter (.ref p)) (PIE X pins σ tg R) X.xe s1 := fun o H2 I2 e2 q2 => by
      obtain ⟨w1, w2, w3, es, ep, ws, w4, w5, _⟩ := I2.frzK e2
      refine iter_keys w1 w2 w3 w4 (pi_one (tk := s1.toks) I2 _ (turn_keys _ w4) ⟨_, Heap.get?_push_size _ rfl, rfl, ?_⟩ q2)
      rw [w5] <;> rfl
    rcases q with ⟨e, q⟩ | ⟨o, e, q⟩
    · obtain ⟨o, I2⟩ := I1.lock e (by trivial)
      exact go o _ I2 upd_same (q o)
    · exact go o _ I1 e q
theorem ei_seq {tg : Expr} (h : ES X fx W e m) : EI X fx W tg e (iSeq m) := by
  refine pi_imp (pi_any h) fun σ H Q ⟨F, G, ρ, Q0, X0, R, h, q, x⟩ => ⟨F, G, ρ, _, X0, R, h, fun r ρ1 h1 F1 H1 v1 s1 R1 k1 => ?_, x⟩
  obtain ⟨d, ρ2, e, h2⟩ := onC_some h1
  obtain ⟨F2, s2, R2, k2⟩ := k1.cap R1 e
  split at h2
  · cases k2 with
    | lst y1 y2 => exact .inl ⟨_, rfl, ⟨_, SqL.of (R2.fh.lst y1)⟩, q _ _ h2 F2 G hp0 H1 _ (s1.trans s2) (Same.refl G) fz0 sd0 R2 (itd_list y1 y2)⟩
  · cases k2 with
    | tup y1 y2 => exact .inr (.inl ⟨_, rfl, ⟨_, R2.fh.sqT y1⟩, q _ _ h2 F2 G hp0 H1 _ (s1.trans s2) (Same.refl G) fz0 sd0 R2 (itd_tup y1 y2)⟩)
  · cases k2
    exact .inr (.inr (.inl ⟨_, rfl, q _ _ h2 F2 G hp0 H1 _ (s1.trans s2) (Same.refl G) fz0 sd0 R2 (itd_str _)⟩))
  · cases k2 with
    | dic y1 y2 =>
      rename_i p vs
      rcases R2.fh _ _ y1 with z | ⟨o, _, _, z⟩
      · refine .inr (.inr (.inr ⟨p, vs, rfl, .inl ⟨z, fun o => ?_⟩⟩))
        obtain ⟨sg, R3⟩ := R2.lock (x := o) y1 z
        exact q _ _ h2 F2 _ _ _ _ (s1.trans s2) sg oneG_fz (oneG_same upd_same) R3 (itd_keys y2)
      · obtain ⟨G', sg, g1, R3⟩ := R2.locked y1 z
        exact .inr (.inr (.inr ⟨p, vs, rfl, .inr ⟨o, z, q _ _ h2 F2 _ _ _ _ (s1.trans s2) sg oneG_fz (oneG_same g1) R3 (itd_keys y2)⟩⟩))
  · exact h2.elim
/-- range(n), range(a, b) -/
def iRange1 (m : ML) : ML := fun ρ Q X => m ρ (fun ds ρ1 => match ds with
  | [.int n] => (-(2 ^ 62) ≤ n ∧ n < 2 ^ 62) ∧ Q (rangeD 0 n.toNat) ρ1
  | _ => False) X
def iRange2 (m : ML) : ML := fun ρ Q X => m ρ (fun ds ρ1 => match ds with
  | [.int a, .int b] => (-(2 ^ 62) ≤ a ∧ a < 2 ^ 62 ∧ -(2 ^ 62) ≤ b ∧ b < 2 ^ 62) ∧ Q (rangeD a (b - a).toNat) ρ1
  | _ => False) X
theorem ei_range1 {tg : Expr} {ml : ML} {p : Pos} (hm : X.mg "range" = none) (h : EL X fx W [a] ml) (hg : Gl X "range" := by rfl) (hs : starEach [a] X.env = [(false, eval a X.env)] := by rfl) :
    EI X fx W tg (.Call (.Name "range" p) [a] [] pos) (iRange1 ml) := by
  refine pi_imp (pi_range1 hg hm h hs) fun σ H Q ⟨F, G, ρ, Q0, X0, R, h, q, x⟩ => ⟨F, G, ρ, _, X0, R, h, fun ds ρ1 h1 F1 H1 vs s1 R1 k1 => ?_, x⟩
  split at h1
  · rename_i n
    cases k1 with
    | cons z1 z2 =>
      cases z1
      cases z2
      exact ⟨n, rfl, h1.1.1, h1.1.2, q _ _ h1.2 F1 G hp0 H1 _ s1 (Same.refl G) fz0 sd0 R1 (itd_range 0 _)⟩
  · exact h1.elim
theorem ei_range2 {tg : Expr} {ml : ML} {p : Pos} (hm : X.mg "range" = none) (h : EL X fx W [a, b] ml) (hg : Gl X "range" := by rfl) (hs : starEach [a, b] X.env = [(false, eval a X.env), (false, eval b X.env)] := by rfl) (hs2 : starEach [b] X.env = [(false, eval b X.env)] := by rfl) :
    EI X fx W tg (.Call (.Name "range" p) [a, b] [] pos) (iRange2 ml) := by
  refine pi_imp (pi_range2 hg hm h hs hs2) fun σ H Q ⟨F, G, ρ, Q0, X0, R, h, q, x⟩ => ⟨F, G, ρ, _, X0, R, h, fun ds ρ1 h1 F1 H1 vs s1 R1 k1 => ?_, x⟩
  split at h1
  · rename_i n m
    cases k1 with
    | cons z1 z2 =>
      cases z1
      cases z2 with
      | cons z1 z2 =>
        cases z1
        cases z2
        exact ⟨n, m, rfl, h1.1, q _ _ h1.2 F1 G hp0 H1 _ s1 (Same.refl G) fz0 sd0 R1 (itd_range _ _)⟩
  · exact h1.elim
def enumD (i : Nat) : List D → List D
  | [] => []
  | x :: xs => .tup [.int (i : Nat), x] :: enumD (i + 1) xs
theorem enumD_length : ∀ (i : Nat) (xs : List D), (enumD i xs).length = xs.length
  | _, [] => rfl
  | i, x :: xs => by rw [enumD, List.length_cons, List.length_cons, enumD_length (i + 1) xs]
theorem enumD_get : ∀ (i j : Nat) (xs : List D) (d : D), xs[j]? = some d → (enumD i xs)[j]? = some (.tup [.int ((i + j : Nat) : Int), d])
  | _, _, [], _, h => by simp at h
  | i, 0, x :: xs, d, h => by simp at h; subst h; rfl
  | i, j + 1, x :: xs, d, h => by
    have ih := enumD_get (i + 1) j xs d (by simpa using h)
    rw [enumD, List.getElem?_cons_succ, ih]
    have e : i + 1 + j = i + (j + 1) := by omega
    rw [e]
theorem itd_enum {p : Addr} {vs : List V} {xs : List D} (h : F p = some (.lst vs)) (dv : DatL K F vs xs) : ItD K F G (Ite K p) (enumD 0 xs) where
  go := fun i H s _ hi => by
    rw [enumD_length] at hi
    obtain ⟨d, hd⟩ : ∃ d, xs[i]? = some d := ⟨xs[i], by simp [hi]⟩
    obtain ⟨v, hv, _⟩ := dv.get hd
    exact ⟨vs, v, SqL.of (s.lst h), hv⟩
  stop := fun H s _ => ⟨vs, SqL.of (s.lst h), by rw [dv.length, enumD_length]; exact Nat.le_refl _⟩
  yld := fun i H x H' s _ hi y => by
    obtain ⟨T, v, rfl, hT, rfl, hx⟩ := y
    have hv := hx vs (SqL.of (s.lst h))
    obtain ⟨d, hd, dd⟩ := dv.getv hv
    refine ⟨_, enumD_get 0 i xs d hd, .inr ⟨T, _, rfl, hT, rfl, fun F' sf hF => ?_⟩⟩
    rw [Nat.zero_add]
    exact .tup (.inl (.inl hF)) (.cons (.int _) (.cons (dd.mono sf) .nil))
def iEnumD (m : ML) : ML := fun ρ Q X => m ρ (fun ds ρ1 => match ds with
  | [.lst xs] => Q (enumD 0 xs) ρ1
  | _ => False) X
theorem ei_enum {ml : ML} {elts : List Expr} {kk : Nat} {p tpos : Pos} (hm : X.mg "enumerate" = none) (h : EL X fx W [a] ml) (hg : Gl X "enumerate" := by rfl) (hs : starEach [a] X.env = [(false, eval a X.env)] := by rfl) :
    EI X fx W (.Tuple elts kk tpos) (.Call (.Name "enumerate" p) [a] [] pos) (iEnumD ml) := by
  refine pi_imp (pi_enum hg hm h hs) fun σ H Q ⟨F, G, ρ, Q0, X0, R, h, q, x⟩ => ⟨F, G, ρ, _, X0, R, h, fun ds ρ1 h1 F1 H1 vs s1 R1 k1 => ?_, x⟩
  split at h1
  · cases k1 with
    | cons z1 z2 =>
      cases z2
      cases z1 with
      | lst y1 y2 => exact ⟨_, _, rfl, SqL.of (R1.fh.lst y1), q _ _ h1 F1 G hp0 H1 _ s1 (Same.refl G) fz0 sd0 R1 (itd_enum y1 y2)⟩
  · exact h1.elim

/-! ### for -/
def loopD (g : MG) (mb : MS) : List D → DE → ME → Prop
  | [], ρ, E => E.nx ρ
  | x :: xs, ρ, E => g x ρ fun ρ1 => mb ρ1 { nx := fun ρ2 => loopD g mb xs ρ2 E, ct := fun ρ2 => loopD g mb xs ρ2 E, bk := E.nx, rt := E.rt, ex := E.ex }
def sFor (mi : ML) (g : MG) (mb : MS) : MS := fun ρ E => mi ρ (fun xs ρ1 => loopD g mb xs ρ1 E) E.ex
theorem ss_for {tg iter : Expr} {mi : ML} {g : MG} {body : List Stmt} {ts : List Nat} (hp : PassesOwn (model X.prog X.w) X.A X.env X.xe) (hc : X.calm = true) (hi : EI X fx W tg iter mi) (hg : EG X fx ts tg g) (hb : SB X fx W body ms)
    (hs : ∀ x : Value, foldedSetIterable iter X.env x = pure x := by intro _; rfl) : SS X fx W (.For tg iter body [] pos) (sFor mi g ms) := by
  refine ps_imp (ps_for hp hc hi hg hb hs) fun D σ H ⟨F, G, ρ, E0, R, h, k⟩ => ⟨F, G, ρ, _, _, R, h, fun xs ρ1 h1 F1 G1 Gd H1 J s1 sg fz sd R1 it => ?_, k.ex σ⟩
  replace k := k.more sg
  clear R h
  refine ⟨fun i m σ H => m = xs.length - i ∧ i ≤ xs.length ∧ ∃ F2 ρ2, Same F1 F2 ∧ Rep X.K F2 G1 H fx ρ2 σ ∧ loopD g ms (xs.drop i) ρ2 E0, ⟨_, rfl, Nat.zero_le _, F1, ρ1, Same.refl F1, R1, h1⟩, ?_⟩
  rintro i m σ' H' ⟨rfl, hi, F2, ρ2, s2, R2, h2⟩
  have it2 := it.mono s2
  by_cases hlt : i < xs.length
  · refine .inr ⟨it2.go i H' R2.fh (sd.trans R2.gh) hlt, fun σ3 H3 => ∃ F3 ρ3, Same F1 F3 ∧ Rep X.K F3 G1 H3 fx ρ3 σ3 ∧ loopD g ms (xs.drop (i + 1)) ρ3 E0, fun σ3 H3 ⟨F3, ρ3, s3, R3, h3⟩ => ⟨xs.length - (i + 1), by omega, rfl, hlt, F3, ρ3, s3, R3, h3⟩, fun y H3 hy => ?_⟩
    obtain ⟨d, hd, z⟩ := it2.yld i H' y H3 R2.fh (sd.trans R2.gh) hlt hy
    have hdr : xs.drop i = d :: xs.drop (i + 1) := by
      rw [List.drop_eq_getElem_cons hlt]
      congr 1
      rw [List.getElem?_eq_getElem hlt] at hd
      exact Option.some.inj hd
    rw [hdr] at h2
    have fin : ∀ F4, Same F2 F4 → Rep X.K F4 G1 H3 fx ρ2 σ' → Dat X.K F4 y d → tSG X.K fx ts g y σ' H3 fun σ2 H2 => tSS X.K fx W ms { D with nx := fun σ3 H3 => ∃ F3 ρ3, Same F1 F3 ∧ Rep X.K F3 G1 H3 fx ρ3 σ3 ∧ loopD g ms (xs.drop (i + 1)) ρ3 E0, ct := fun σ3 H3 => ∃ F3 ρ3, Same F1 F3 ∧ Rep X.K F3 G1 H3 fx ρ3 σ3 ∧ loopD g ms (xs.drop (i + 1)) ρ3 E0, bk := D.nx } σ2 H2 := fun F4 s4 R4 d4 =>
      ⟨F4, G1, ρ2, d, _, R4, d4, h2, fun ρ5 h5 F5 H5 σ5 s5 _ R5 => ⟨F5, G1, ρ5, _, R5, h5, by
        have sm := ((s1.trans s2).trans s4).trans s5
        exact ⟨fun ρ6 h6 F6 H6 σ6 s6 R6 => ⟨F6, ρ6, ((s2.trans s4).trans s5).trans s6, R6, h6⟩, (k.mono sm).rt, (k.mono sm).nx, fun ρ6 h6 F6 H6 σ6 s6 R6 => ⟨F6, ρ6, ((s2.trans s4).trans s5).trans s6, R6, h6⟩, (k.mono sm).ex⟩⟩⟩
    rcases z with ⟨rfl, dd⟩ | ⟨p, o, rfl, hp, rfl, dd⟩
    · exact fin F2 (Same.refl F2) R2 dd
    · obtain ⟨sm, R4⟩ := R2.newF (o := o) hp
      exact fin _ sm R4 (dd _ sm upd_same)
  · have e : i = xs.length := by omega
    subst e
    rw [List.drop_length] at h2
    exact .inl ⟨it2.stop H' R2.fh (sd.trans R2.gh), k.nx ρ2 h2 F2 H' σ' (s1.trans s2) R2⟩

/-! ### while -/
def whileN (mt : MT) (mb : MS) : Nat → DE → ME → Prop
  | 0, _, _ => False
  | n + 1, ρ, E => mt ρ (fun b ρ1 => if b = true then mb ρ1 { nx := fun ρ2 => whileN mt mb n ρ2 E, ct := fun ρ2 => whileN mt mb n ρ2 E, bk := E.nx, rt := E.rt, ex := E.ex } else E.nx ρ1) E.ex
def sWhile (mt : MT) (mb : MS) : MS := fun ρ E => ∃ n, whileN mt mb n ρ E
theorem ss_while {body : List Stmt} (hp : PassesOwn (model X.prog X.w) X.A X.env X.xe) (hc : ET X fx W c mt) (hb : SB X fx W body ms) : SS X fx W (.While c body [] pos) (sWhile mt ms) := by
  refine ps_imp (ps_while hp hc hb) fun D σ H ⟨F, G, ρ, E0, R, ⟨n, h⟩, k⟩ => ?_
  refine ⟨fun m σ H => ∃ F2 ρ2, Same F F2 ∧ Rep X.K F2 G H fx ρ2 σ ∧ whileN mt ms m ρ2 E0, ⟨n, F, ρ, Same.refl F, R, h⟩, ?_⟩
  rintro m σ1 H1 ⟨F2, ρ2, s2, R2, h2⟩
  cases m with
  | zero => exact h2.elim
  | succ m =>
    refine ⟨F2, G, ρ2, _, _, R2, h2, fun b ρ3 h3 F3 H3 s3 R3 => ?_, (k.mono s2).ex σ1⟩
    cases b with
    | false => exact k.nx ρ3 h3 F3 H3 σ1 (s2.trans s3) R3
    | true =>
      refine ⟨fun σ4 H4 => ∃ F4 ρ4, Same F F4 ∧ Rep X.K F4 G H4 fx ρ4 σ4 ∧ whileN mt ms m ρ4 E0, fun σ4 H4 q => ⟨m, Nat.lt_succ_self m, q⟩, F3, G, ρ3, _, R3, h3, ?_⟩
      have sm := s2.trans s3
      exact ⟨fun ρ6 h6 F6 H6 σ6 s6 R6 => ⟨F6, ρ6, sm.trans s6, R6, h6⟩, (k.mono sm).rt, (k.mono sm).nx, fun ρ6 h6 F6 H6 σ6 s6 R6 => ⟨F6, ρ6, sm.trans s6, R6, h6⟩, (k.mono sm).ex⟩
end
end BB

namespace BB
open PySem PySem.Spec PyProof.Rows L2

/-! ### list comprehensions of any number of clauses: a level for each clause -/
abbrev TK := L2.St → It → Hp → (Hp → Prop) → Prop
section
variable {P : Program} {w : World} {A : Around} {R : Result → Shared → Prop} {s : Shared}
/-- a clause behind which another one stands -/
theorem cl_mid {cmp tgt src nsrc : Expr} {ifs : List Expr} {k : Nat} {it acc : Value} {ce : Env}
    (heq : compTurn cmp k it acc ce = (do
      standAt src.pos
      match ← pyNext it with
      | none => pure (.done .next)
      | some got =>
        letOwnedTupleGo tgt it got
        assign tgt ce got
        let mut good := true
        for q in ifs do
          if good then good ← isTrue q ce (eval q ce)
        if good then
          let z ← eval nsrc ce
          standAt nsrc.pos
          let z ← foldedSetIterable nsrc ce z
          let _ ← runOwn (.compStart cmp (k + 1) (← holding [z] (pyIter z)) acc ce) ce
        again (.compLoop cmp k it acc ce))) (hden : ∀ M : Model, M = model P w → M.den (.compLoop cmp k it acc ce) = (compTurn cmp k it acc ce).onRaise (fun x => do noteFrame x ce; theTreesLotGoes x))
    (hun : A.under (.compLoop cmp k it acc ce) = A) (hq : (Code.compLoop cmp k it acc ce).quiet = true)
    (hs : ∀ z, foldedSetIterable nsrc ce z = pure z) (I : Nat → Shared → Prop)
    (turn : ∀ n s, I n s → wpAny (model P w) A (pyNext it) (fun r sx1 => match r with
      | none => R (.ok .next) sx1
      | some got => wpAny (model P w) A (letOwnedTupleGo tgt it got) (fun _ sx2 => wpAny (model P w) A (assign tgt ce got) (fun _ sx3 =>
          wpAny (model P w) A (forIn ifs true fun q r => if r = true then do let good ← isTrue q ce (eval q ce); pure (ForInStep.yield good) else pure (ForInStep.yield r)) (fun good sx4 =>
            if good = true then wpAny (model P w) A (eval nsrc ce) (fun z sx5 => wpAny (model P w) A (pyIter z) (fun it1 sx6 =>
              codeAny (model P w) A (.compStart cmp (k + 1) it1 acc ce) (fun r s' => match r with
                | .ok _ => ∃ m, m < n ∧ I m s'
                | .error _ => False) sx6) (fun _ _ => False) sx5) (fun _ _ => False) sx4
            else ∃ m, m < n ∧ I m sx4) (fun _ _ => False) sx3) (fun _ _ => False) sx2) (fun _ _ => False) sx1) (fun _ _ => False) s)
    (n : Nat) (h : I n s) : codeAny (model P w) A (.compLoop cmp k it acc ce) R s := by
  refine codeAny_loop hq I (fun n s hI => ?_) n h
  rw [hun, hden _ rfl]
  refine wpAny_noted ?_
  rw [heq]
  refine wpAny_bind (wpAny_standAt (wpAny_bind (wpAny_mono (turn n s hI) (fun r sx1 g1 => ?_) fun _ _ z => z.elim)))
  cases r with
  | none => exact wpAny_pure g1
  | some got =>
    refine wpAny_bind (wpAny_mono g1 (fun _ sx2 g2 => ?_) fun _ _ z => z.elim)
    refine wpAny_bind (wpAny_mono g2 (fun _ sx3 g3 => wpAny_bind (wpAny_mono g3 (fun good sx4 g4 => ?_) fun _ _ z => z.elim)) fun _ _ z => z.elim)
    cases good with
    | false => exact wpAny_pure ⟨rfl, g4⟩
    | true =>
      refine wpAny_bind (wpAny_mono g4 (fun z sx5 g5 => ?_) fun _ _ z => z.elim)
      refine wpAny_bind (wpAny_standAt (wpAny_bind (wpAny_of_eq (hs z) (wpAny_bind (wpAny_holding (wpAny_mono g5 (fun it1 sx6 g6 => ?_) fun _ _ z => z.elim))))))
      refine wpAny_bind (wpAny_runOwn ?_)
      rw [Around.mark_none]
      refine codeAny_mono g6 fun r s' hr => ?_
      cases r with
      | error e => exact hr.elim
      | ok f =>
        first
          | exact wpAny_pure ⟨rfl, hr⟩
          | exact wpAny_bind (wpAny_pure (wpAny_pure ⟨rfl, hr⟩))
/-- the last clause -/
theorem cl_last {cmp elt tgt src : Expr} {ifs : List Expr} {k : Nat} {it acc : Value} {ce : Env}
    (heq : compTurn cmp k it acc ce = (do
      standAt src.pos
      match ← pyNext it with
      | none => pure (.done .next)
      | some got =>
        letOwnedTupleGo tgt it got
        assign tgt ce got
        let mut good := true
        for q in ifs do
          if good then good ← isTrue q ce (eval q ce)
        if good then
          (do let _ ← call (.builtin "list.append") [acc, ← eval elt ce])
        again (.compLoop cmp k it acc ce))) (hden : ∀ M : Model, M = model P w → M.den (.compLoop cmp k it acc ce) = (compTurn cmp k it acc ce).onRaise (fun x => do noteFrame x ce; theTreesLotGoes x))
    (hun : A.under (.compLoop cmp k it acc ce) = A) (hq : (Code.compLoop cmp k it acc ce).quiet = true) (I : Nat → Shared → Prop)
    (turn : ∀ n s, I n s → wpAny (model P w) A (pyNext it) (fun r sx1 => match r with
      | none => R (.ok .next) sx1
      | some got => wpAny (model P w) A (letOwnedTupleGo tgt it got) (fun _ sx2 => wpAny (model P w) A (assign tgt ce got) (fun _ sx3 =>
          wpAny (model P w) A (forIn ifs true fun q r => if r = true then do let good ← isTrue q ce (eval q ce); pure (ForInStep.yield good) else pure (ForInStep.yield r)) (fun good sx4 =>
            if good = true then wpAny (model P w) A (eval elt ce) (fun z sx5 =>
              wpAny (model P w) A (call (.builtin "list.append") [acc, z]) (fun _ sx6 => ∃ m, m < n ∧ I m sx6) (fun _ _ => False) sx5) (fun _ _ => False) sx4
            else ∃ m, m < n ∧ I m sx4) (fun _ _ => False) sx3) (fun _ _ => False) sx2) (fun _ _ => False) sx1) (fun _ _ => False) s)
    (n : Nat) (h : I n s) : codeAny (model P w) A (.compLoop cmp k it acc ce) R s := by
  refine codeAny_loop hq I (fun n s hI => ?_) n h
  rw [hun, hden _ rfl]
  refine wpAny_noted ?_
  rw [heq]
  refine wpAny_bind (wpAny_standAt (wpAny_bind (wpAny_mono (turn n s hI) (fun r sx1 g1 => ?_) fun _ _ z => z.elim)))
  cases r with
  | none => exact wpAny_pure g1
  | some got =>
    refine wpAny_bind (wpAny_mono g1 (fun _ sx2 g2 => ?_) fun _ _ z => z.elim)
    refine wpAny_bind (wpAny_mono g2 (fun _ sx3 g3 => wpAny_bind (wpAny_mono g3 (fun good sx4 g4 => ?_) fun _ _ z => z.elim)) fun _ _ z => z.elim)
    cases good with
    | false => exact wpAny_pure ⟨rfl, g4⟩
    | true =>
      exact wpAny_bind (wpAny_bind (wpAny_mono g4 (fun z sx5 g5 => wpAny_bind (wpAny_mono g5 (fun _ sx6 g6 => wpAny_pure (wpAny_pure ⟨rfl, g6⟩)) fun _ _ z => z.elim)) fun _ _ z => z.elim))
/-- the start of a clause -/
theorem cl_start {cmp tgt src : Expr} {ifs : List Expr} {k : Nat} {it acc : Value} {ce : Env} (hc : (clausesOf cmp)[k]? = some ⟨tgt, src, ifs, 0⟩)
    (hden : ∀ M : Model, M = model P w → M.den (.compStart cmp k it acc ce) = (compStart cmp k it acc ce).onRaise (fun x => do noteFrame x ce; standAt theWindowsPlace)) (hun : A.under (.compStart cmp k it acc ce) = A)
    (hquiet : (Code.compLoop cmp k it acc ce).quiet = true)
    (hx0 : codeAny (model P w) A (.compLoop cmp k it acc ce) R s) (h : wpAny (model P w) A (pyIter it) (fun it' s' => codeAny (model P w) A (.compLoop cmp k it' acc ce) R s') (fun _ _ => False) s)
    (hq' : ∀ it', (Code.compLoop cmp k it' acc ce).quiet = true) :
    codeAny (model P w) A (.compStart cmp k it acc ce) R s := by
  refine codeAny_of_tree ?_
  rw [hun, hden _ rfl]
  refine wpAny_notedAt ?_
  unfold compStart
  rw [hc]
  show wpAny _ _ (ask >>= _) _ _ s
  refine wpAny_bind (wpAny_askSetting (wpAny_ite ?_))
  split
  · first
      | exact wpAny_pure ⟨hquiet, hx0⟩
      | exact wpAny_bind (wpAny_pure (wpAny_pure ⟨hquiet, hx0⟩))
  · first
      | exact wpAny_bind (wpAny_rule (wpAny_bind (wpAny_standAt (wpAny_bind (wpAny_mono h (fun it' s' g => wpAny_pure ⟨hq' it', g⟩) fun _ _ z => z.elim)))))
      | (refine wpAny_bind (wpAny_rule ?_); show wpAny _ _ (standAt src.pos >>= _) _ _ s; exact wpAny_bind (wpAny_standAt (wpAny_bind (wpAny_mono h (fun it' s' g => wpAny_pure ⟨hq' it', g⟩) fun _ _ z => z.elim))))
end

/-- the loop of clause k runs: from the slots σ to those without the block's later names -/
structure Lvl (Y : Cx) (cmp : Expr) (k : Nat) (tg : Expr) (D : Addr) (vs : List Nat) (t : TK) : Prop where
  run : ∀ (pins : List (Addr × Obj)) (s : Shared) (σ : L2.St) (H : Hp) (it : Addr) (fp : List Addr) (tn : Nat → Heap → Prop) (J : It) (Nx : Hp → Prop), Inv Y pins σ H s → Turn Y.prog Y.w Y.K tg J fp it tn → tn 0 s.heap → (∀ b ∈ fp, FpOk Y pins H b) → t σ J H Nx →
    codeAny (model Y.prog Y.w) Y.A (.compLoop cmp k (.ref it) (.ref D) Y.env) (fun r s' => match r with
      | .ok _ => ∃ H', Inv Y pins (wipe σ vs) H' s' ∧ Nx H'
      | .error _ => False) s
/-- what a level asks: a turn from the wiped slots, then the rest of the clause -/
def kLvl (g : TG) (tt : TT) (vs : List Nat) (rest : L2.St → Hp → (Hp → Prop) → Prop) : TK := fun σ J H Nx => ∃ U : Nat → Nat → Hp → Prop, (∃ m, U 0 m H) ∧ ∀ i m H, U i m H →
  (J.stop i H ∧ Nx H) ∨ (J.go i H ∧ ∃ N : Hp → Prop, (∀ H', N H' → ∃ m', m' < m ∧ U (i + 1) m' H') ∧ ∀ x H', J.yld i H x H' → g x (wipe σ vs) H' fun σ2 Hx2 => wipe σ2 vs = wipe σ vs ∧ tt σ2 Hx2 fun b Hx3 =>
    if b = true then rest σ2 Hx3 N else N Hx3)
def rLast (te : TE) (D : Addr) : L2.St → Hp → (Hp → Prop) → Prop := fun σ H N => te σ H fun y Hx4 => ∃ acc, Hx4 D = some (.lst acc) ∧ acc.length < sizeLine ∧ N (upd Hx4 D (.lst (acc ++ [y])))
def rMid (wi : TI) (kin : TK) : L2.St → Hp → (Hp → Prop) → Prop := fun σ H N => wi σ H fun J Hx4 => kin σ J Hx4 N
section
variable {Y : Cx} {cmp elt tg src tg1 src1 : Expr} {ifs : List Expr} {k : Nat} {D : Addr} {vs vs1 : List Nat} {g : TG} {tt : TT} {te : TE} {wi : TI} {kin : TK}
theorem fpk {pins : List (Addr × Obj)} {H H' : Hp} {fp : List Addr} (h : ∀ b ∈ fp, FpOk Y pins H b) (n : ∀ b ∈ fp, H' b = none) : ∀ b ∈ fp, FpOk Y pins H' b := fun b hb => ⟨n b hb, (h b hb).2⟩
theorem lvl_last (hc : Y.calm = true) (hxe : Y.xe = fun _ _ => False) (hg : PG Y tg g) (ht : PTs Y ifs tt) (he : PE Y elt te)
    (heq : ∀ it acc ce, compTurn cmp k it acc ce = (do
      standAt src.pos
      match ← pyNext it with
      | none => pure (.done .next)
      | some got =>
        letOwnedTupleGo tg it got
        assign tg ce got
        let mut good := true
        for q in ifs do
          if good then good ← isTrue q ce (eval q ce)
        if good then
          (do let _ ← call (.builtin "list.append") [acc, ← eval elt ce])
        again (.compLoop cmp k it acc ce))) (hden : ∀ (P : Program) (w : World) it acc ce, (model P w).den (.compLoop cmp k it acc ce) = (compTurn cmp k it acc ce).onRaise (fun x => do noteFrame x ce; theTreesLotGoes x))
    (hun : ∀ (A : Around) it acc ce, A.under (.compLoop cmp k it acc ce) = A) (hq : ∀ it acc ce, (Code.compLoop cmp k it acc ce).quiet = true) : Lvl Y cmp k tg D vs (kLvl g tt vs (rLast te D)) := by
  refine ⟨fun pins s σ H it fp tn J Nx I T st f ⟨U, ⟨m0, u0⟩, turn⟩ => ?_⟩
  refine cl_last (heq _ _ _) (fun M e => by rw [e]; exact hden _ _ _ _ _) (hun _ _ _ _) (hq _ _ _) (fun n s' => ∃ i H', Inv Y pins (wipe σ vs) H' s' ∧ tn i s'.heap ∧ (∀ b ∈ fp, H' b = none) ∧ U i n H') ?_ m0
    ⟨0, H, I.weak (wipe_length _ _) (fun j v e => (wipe_some e).1), st, fun b hb => (f b hb).1, u0⟩
  rintro n sx5 ⟨i, Hx5, Ix5, stx5, nx5, u5⟩
  rcases turn i n Hx5 u5 with ⟨stop, nx⟩ | ⟨go, N, hN, step⟩
  · refine thnF (T.done Y rfl rfl rfl hc i pins sx5 _ Hx5 (fun _ _ => False) Ix5 (fpk f nx5) stx5 stop) fun r sx6 ⟨hr, Ix6⟩ => ?_
    subst hr
    exact ⟨Hx5, Ix6, nx⟩
  · refine thnF (T.item Y rfl rfl rfl hc i pins sx5 _ Hx5 (fun _ _ => False) Ix5 (fpk f nx5) stx5 go) fun r sx6 ⟨u, hr, hx6⟩ => ?_
    subst hr
    refine thnF hx6 fun _ sx7 ⟨x, Hx7, Ix7, r7, y7, stx7, nx7⟩ => ?_
    have Ix7' := Ix7.pinned (fpk f nx7) (T.obj _ _ stx7)
    have pgr := hg.run _ sx7 _ Hx7 x u _ Ix7' r7 (step x Hx7 y7)
    rw [hxe] at pgr
    refine thnF pgr fun _ sx8 ⟨σ8, Hx8, Ix8, hw8, qx8⟩ => ?_
    have ptr := ht.run _ sx8 σ8 Hx8 _ Ix8 qx8
    rw [hxe] at ptr
    refine thnF ptr fun b sx9 ⟨Hx9, Ix9, qx9⟩ => ?_
    have fin : ∀ {s' : Shared} {H' : Hp}, Inv Y (pins ++ pinsAt fp sx7.heap) σ8 H' s' → N H' → ∃ m, m < n ∧ ∃ i H', Inv Y pins (wipe σ vs) H' s' ∧ tn i s'.heap ∧ (∀ b ∈ fp, H' b = none) ∧ U i m H' := fun {s' H'} I' nx => by
      obtain ⟨m', hm, u'⟩ := hN H' nx
      have pin' : ∀ b ∈ fp, ∀ o, sx7.heap.get? b = some o → s'.heap.get? b = some o ∧ H' b = none := fun b hb o e =>
        let z := I'.pin (b, o) (List.mem_append_right _ (List.mem_append_right _ (mem_pinsAt hb e)))
        ⟨z.1, z.2.1⟩
      refine ⟨m', hm, i + 1, H', I'.unpinned.weak (by rw [← hw8, wipe_length]) (fun j v e => ?_), T.keep _ _ _ stx7 fun b hb o e => (pin' b hb o e).1, fun b hb => ?_, u'⟩
      · rw [← hw8] at e
        exact (wipe_some e).1
      · obtain ⟨o, e, _⟩ := T.obj _ _ stx7 b hb
        exact (pin' b hb o e).2
    cases b with
    | false =>
      simp only [Bool.false_eq_true, if_false] at qx9 ⊢
      exact fin Ix9 qx9
    | true =>
      simp only [if_true] at qx9 ⊢
      have per := he.run _ sx9 σ8 Hx9 _ Ix9 qx9
      rw [hxe] at per
      refine thnF per fun z sx10 ⟨yv, Hx10, Ix10, r10, acc, hDx10, hz10, nx⟩ => ?_
      exact app_ok (X := Y) Ix10 hDx10 hz10 r10 fun sx11 Ix11 => fin Ix11 nx
theorem lvl_mid (hc : Y.calm = true) (hxe : Y.xe = fun _ _ => False) (hg : PG Y tg g) (ht : PTs Y ifs tt) (hi : PI Y tg1 src1 wi) (hin : Lvl Y cmp (k + 1) tg1 D vs1 kin) (hv : ∀ i ∈ vs1, i ∈ vs)
    (heq : ∀ it acc ce, compTurn cmp k it acc ce = (do
      standAt src.pos
      match ← pyNext it with
      | none => pure (.done .next)
      | some got =>
        letOwnedTupleGo tg it got
        assign tg ce got
        let mut good := true
        for q in ifs do
          if good then good ← isTrue q ce (eval q ce)
        if good then
          let z ← eval src1 ce
          standAt src1.pos
          let z ← foldedSetIterable src1 ce z
          let _ ← runOwn (.compStart cmp (k + 1) (← holding [z] (pyIter z)) acc ce) ce
        again (.compLoop cmp k it acc ce))) (hden : ∀ (P : Program) (w : World) it acc ce, (model P w).den (.compLoop cmp k it acc ce) = (compTurn cmp k it acc ce).onRaise (fun x => do noteFrame x ce; theTreesLotGoes x))
    (hun : ∀ (A : Around) it acc ce, A.under (.compLoop cmp k it acc ce) = A) (hq : ∀ it acc ce, (Code.compLoop cmp k it acc ce).quiet = true)
    {ifs1 : List Expr} (hcl : (clausesOf cmp)[k + 1]? = some ⟨tg1, src1, ifs1, 0⟩)
    (hden1 : ∀ (P : Program) (w : World) it acc ce, (model P w).den (.compStart cmp (k + 1) it acc ce) = (compStart cmp (k + 1) it acc ce).onRaise (fun x => do noteFrame x ce; standAt theWindowsPlace))
    (hun1 : ∀ (A : Around) it acc ce, A.under (.compStart cmp (k + 1) it acc ce) = A) (hq1 : ∀ it acc ce, (Code.compLoop cmp (k + 1) it acc ce).quiet = true)
    (hs : ∀ env z, foldedSetIterable src1 env z = pure z) : Lvl Y cmp k tg D vs (kLvl g tt vs (rMid wi kin)) := by
  refine ⟨fun pins s σ H it fp tn J Nx I T st f ⟨U, ⟨m0, u0⟩, turn⟩ => ?_⟩
  refine cl_mid (heq _ _ _) (fun M e => by rw [e]; exact hden _ _ _ _ _) (hun _ _ _ _) (hq _ _ _) (hs _) (fun n s' => ∃ i H', Inv Y pins (wipe σ vs) H' s' ∧ tn i s'.heap ∧ (∀ b ∈ fp, H' b = none) ∧ U i n H') ?_ m0
    ⟨0, H, I.weak (wipe_length _ _) (fun j v e => (wipe_some e).1), st, fun b hb => (f b hb).1, u0⟩
  rintro n sx5 ⟨i, Hx5, Ix5, stx5, nx5, u5⟩
  rcases turn i n Hx5 u5 with ⟨stop, nx⟩ | ⟨go, N, hN, step⟩
  · refine thnF (T.done Y rfl rfl rfl hc i pins sx5 _ Hx5 (fun _ _ => False) Ix5 (fpk f nx5) stx5 stop) fun r sx6 ⟨hr, Ix6⟩ => ?_
    subst hr
    exact ⟨Hx5, Ix6, nx⟩
  · refine thnF (T.item Y rfl rfl rfl hc i pins sx5 _ Hx5 (fun _ _ => False) Ix5 (fpk f nx5) stx5 go) fun r sx6 ⟨u, hr, hx6⟩ => ?_
    subst hr
    refine thnF hx6 fun _ sx7 ⟨x, Hx7, Ix7, r7, y7, stx7, nx7⟩ => ?_
    have Ix7' := Ix7.pinned (fpk f nx7) (T.obj _ _ stx7)
    have pgr := hg.run _ sx7 _ Hx7 x u _ Ix7' r7 (step x Hx7 y7)
    rw [hxe] at pgr
    refine thnF pgr fun _ sx8 ⟨σ8, Hx8, Ix8, hw8, qx8⟩ => ?_
    have ptr := ht.run _ sx8 σ8 Hx8 _ Ix8 qx8
    rw [hxe] at ptr
    refine thnF ptr fun b sx9 ⟨Hx9, Ix9, qx9⟩ => ?_
    have fin : ∀ {σ9 : L2.St} {s' : Shared} {H' : Hp}, Inv Y (pins ++ pinsAt fp sx7.heap) σ9 H' s' → (wipe σ vs).length = σ9.length → (∀ (j : Nat) v, (wipe σ vs)[j]? = some (some v) → σ9[j]? = some (some v)) → N H' →
        ∃ m, m < n ∧ ∃ i H', Inv Y pins (wipe σ vs) H' s' ∧ tn i s'.heap ∧ (∀ b ∈ fp, H' b = none) ∧ U i m H' := fun {σ9 s' H'} I' hl hk nx => by
      obtain ⟨m', hm, u'⟩ := hN H' nx
      have pin' : ∀ b ∈ fp, ∀ o, sx7.heap.get? b = some o → s'.heap.get? b = some o ∧ H' b = none := fun b hb o e =>
        let z := I'.pin (b, o) (List.mem_append_right _ (List.mem_append_right _ (mem_pinsAt hb e)))
        ⟨z.1, z.2.1⟩
      refine ⟨m', hm, i + 1, H', I'.unpinned.weak hl hk, T.keep _ _ _ stx7 fun b hb o e => (pin' b hb o e).1, fun b hb => ?_, u'⟩
      obtain ⟨o, e, _⟩ := T.obj _ _ stx7 b hb
      exact (pin' b hb o e).2
    cases b with
    | false =>
      simp only [Bool.false_eq_true, if_false] at qx9 ⊢
      exact fin Ix9 (by rw [← hw8, wipe_length]) (fun j v e => by rw [← hw8] at e; exact (wipe_some e).1) qx9
    | true =>
      simp only [if_true] at qx9 ⊢
      have pir := hi.run _ sx9 σ8 Hx9 _ Ix9 qx9
      rw [hxe] at pir
      refine thnF pir fun xv sx10 hx => thnF hx fun itv sx11 hx11 => ?_
      obtain ⟨it1, fp1, tn1, J1, Hx11, e1, Ix11, T1, stx11, fx11, qx11⟩ := hx11
      subst e1
      have inner := hin.run _ sx11 σ8 Hx11 it1 fp1 tn1 J1 N Ix11 T1 stx11 fx11 qx11
      have inner2 : codeAny (model Y.prog Y.w) Y.A (.compLoop cmp (k + 1) (.ref it1) (.ref D) Y.env) (fun r s' => match r with
          | .ok _ => ∃ m, m < n ∧ ∃ i H', Inv Y pins (wipe σ vs) H' s' ∧ tn i s'.heap ∧ (∀ b ∈ fp, H' b = none) ∧ U i m H'
          | .error _ => False) sx11 := codeAny_mono inner fun r s' hr => by
        cases r with
        | error e => exact hr
        | ok fl =>
          obtain ⟨H', I', nx⟩ := hr
          refine fin I' ((show (wipe σ vs).length = σ8.length by rw [← hw8, wipe_length]).trans (wipe_length _ _).symm) (fun j v e => ?_) nx
          rw [← hw8] at e
          obtain ⟨z1, z2⟩ := wipe_some e
          rw [wipe_out fun z => z2 (hv j z)]
          exact z1
      exact cl_start hcl (fun M e => by rw [e]; exact hden1 _ _ _ _ _) (hun1 _ _ _ _) (hq1 _ _ _) inner2 (T1.self Y.A 0 _ _ _ stx11 inner2) (fun it' => hq1 _ _ _)
end

/-! ### the whole comprehension -/
def tLcN (wi : TI) (vs : List Nat) (t : Addr → TK) : TE := fun σ H Q => wi σ H fun J Hx1 => ∀ D, Hx1 D = none → t D (wipe σ vs) J (upd Hx1 D (.lst [])) fun H' => Q (.ref D) H'
section
variable {X : Cx} {elt tg src : Expr} {ifs : List Expr} {rest : List Comprehension} {scope : Scope} {own : List (Str × Nat)} {pos pos' spos : Pos} {wi : TI} {t : Addr → TK}
theorem lcn_core {pins : List (Addr × Obj)} {s : Shared} {σ : L2.St} {H : Hp} {Q : VK} {use : Option (Value → Sem Unit)} {Qf : Value → Shared → Prop}
    (hc : X.calm = true) (hN : X.N.Nodup) (I : Inv X pins σ H s) (hi : PI X tg src wi) (ok : BlkOk X.N X.env.scope scope own) (hs : ∀ z, foldedSetIterable src X.env z = pure z)
    (hl : ∀ (s : Shared) (H : Hp) (C : Addr) (cl : List (Str × Addr)) (fp : List Addr) (D : Addr), Lvl (X.blk s H scope (compEnvC scope cl C X.env) fp) (.ListComp elt (⟨tg, src, ifs, 0⟩ :: rest) scope pos) 0 tg D (own.map (·.2)) (t D))
    (h : tLcN wi (own.map (·.2)) t σ H Q)
    (fin : ∀ D C s' m H', Inv X pins σ H' s' → Q (.ref D) H' → s'.heap.Ns C m → FpOk X pins H' C → compPost (model X.prog X.w) X.A X.xe use Qf (.ref D) C (.ok .next) s')
    (fin' : ∀ D C s' fl, compPost (model X.prog X.w) X.A X.xe use Qf (.ref D) C (.ok .next) s' → compPost (model X.prog X.w) X.A X.xe use Qf (.ref D) C (.ok fl) s') :
    wpAny (model X.prog X.w) X.A (comprehension (.ListComp elt (⟨tg, src, ifs, 0⟩ :: rest) scope pos) scope X.env pos' (newList []) false (eval src X.env) use) Qf X.xe s := by
  have hfree : ∀ y ∈ scope.names, y.2 = .free → ∃ c, X.env.cells.lookup y.1 = some c := fun y hy e => by
    rcases ok.free y hy e with k | k
    · exact I.ok.has _ (.inl k)
    · exact I.ok.has _ (.inr k)
  refine wpAny_comprehension_free (use := use) rfl hs (closure_ok hfree) ok.kind (fun y hy e => by rw [ok.uniq y hy, e]) ?_
  refine thn (hi.run pins s σ H _ I h) fun xv sx1 hx => thn hx fun itv sx2 ⟨it, fp, tn, J, Hx2, e, Ix2, T, stx2, fx2, q⟩ => ?_
  subst e
  refine wpAny_newObj_type (newEnv_comp ?_) (by show 0 ≤ sizeLine; decide)
  generalize hD : sx2.heap.objs.size = D
  have hDn : Hx2 D = none := Ix2.hok.fresh (Nat.le_of_eq hD)
  have q := q D hDn
  generalize hs3 : ({ sx2 with heap := sx2.heap.push { cls := .type "list", data := .seq ([] : List Value).toArray } } : Shared) = sx3
  have hx3 : sx3.heap = sx2.heap.push { cls := .type "list", data := .seq ([] : List Value).toArray } := by rw [← hs3]
  have Ix3 : Inv X pins σ (upd Hx2 D (.lst [])) sx3 := by
    rw [← hs3]
    refine Ix2.laid (t' := sx2.toks) (fun b o e => Heap.get?_push_of_some _ e) (Nat.le_of_eq hD) ⟨Nat.zero_le _, [], 0, .nil, ?_⟩
    rw [← hD]
    exact Heap.get?_push_size _ rfl
  have sz : ∀ b ∈ fp, b < sx2.heap.objs.size := fun b hb => by
    obtain ⟨o, e, _⟩ := T.obj _ _ stx2 b hb
    exact Heap.lt_size e
  have fx3 : ∀ b ∈ fp, FpOk X pins (upd Hx2 D (.lst [])) b ∧ b < sx3.heap.objs.size := fun b hb => by
    have hlt := sz b hb
    refine ⟨⟨?_, (fx2 b hb).2⟩, by rw [hx3, Heap.size_push]; exact Nat.lt_succ_of_lt hlt⟩
    rw [upd_ne (by rw [← hD]; exact Nat.ne_of_lt hlt)]
    exact (fx2 b hb).1
  have stx3 : tn 0 sx3.heap := T.keep _ _ _ stx2 fun b _ o e => by rw [hx3]; exact Heap.get?_push_of_some _ e
  have Ix4 := block_start Ix3 ok hN fx3
  have lv := hl sx3 (upd Hx2 D (.lst [])) sx3.heap.objs.size (cellsFrom (sx3.heap.objs.size + 1) scope.names (cloFrom X.env.cells scope.names [])) fp D
  show codeAny _ _ (.compStart (.ListComp elt (⟨tg, src, ifs, 0⟩ :: rest) scope pos) 0 (.ref it) (.ref D) (compEnvC scope (cellsFrom (sx3.heap.objs.size + 1) scope.names (cloFrom X.env.cells scope.names [])) sx3.heap.objs.size X.env)) (compPost (model X.prog X.w) X.A X.xe use Qf (.ref D) sx3.heap.objs.size) { sx3 with heap := pushCells (sx3.heap.push { cls := .type "dict", data := .dict #[] }) scope.names }
  generalize hce : compEnvC scope (cellsFrom (sx3.heap.objs.size + 1) scope.names (cloFrom X.env.cells scope.names [])) sx3.heap.objs.size X.env = ce at Ix4 lv ⊢
  have cL : ce.locals = sx3.heap.objs.size := by subst hce; rfl
  have nfp : ∀ b ∈ fp, (upd Hx2 D (.lst [])) b = none := fun b hb => (fx3 b hb).1.1
  generalize hH3 : upd Hx2 D (.lst []) = Hx3 at Ix3 Ix4 lv q nfp fx3
  generalize hs4 : ({ sx3 with heap := pushCells (sx3.heap.push { cls := .type "dict", data := .dict #[] }) scope.names } : Shared) = sx4 at Ix4 ⊢
  have stx4 : tn 0 sx4.heap := T.keep _ _ _ stx3 fun b _ o e => by rw [← hs4]; exact pushCells_keeps _ _ _ _ (Heap.get?_push_of_some _ e)
  have fpb : ∀ b ∈ fp, FpOk (X.blk sx3 Hx3 scope ce fp) [] Hx3 b := fun b hb =>
    ⟨nfp b hb, (Ix4.ok.exf b hb).1, Ix4.ok.exfs b hb, .inl hb, fun x c e => (Ix4.ok.exf b hb).2 x c e, fun p hp => absurd (show p ∈ ([] : List (Addr × Obj)) ++ [] from hp) (by simp)⟩
  have run0 := lv.run [] sx4 (wipe σ (own.map (·.2))) Hx3 it fp tn J _ Ix4 T stx4 fpb q
  have loop : codeAny (model X.prog X.w) X.A (.compLoop (.ListComp elt (⟨tg, src, ifs, 0⟩ :: rest) scope pos) 0 (.ref it) (.ref D) ce) (compPost (model X.prog X.w) X.A X.xe use Qf (.ref D) sx3.heap.objs.size) sx4 := by
    refine codeAny_mono run0 fun r sx6 hr => ?_
    cases r with
    | error e => exact hr.elim
    | ok fl =>
      obtain ⟨Hx6, Ix6, qq⟩ := hr
      have Ix7 : Inv X pins σ Hx6 sx6 := Ix3.call' (ch := fp) Ix6.os Ix6.base Ix6.hok Ix6.bare fun b hb => ⟨(fx3 b hb).1.2.2.2.1, (fx3 b hb).1.2.1, (fx3 b hb).1.2.2.2.2.1, (fx3 b hb).1.2.2.2.2.2⟩
      have nC : Hx6 sx3.heap.objs.size = none := by
        have z : Hx6 ce.locals = none := Ix6.free
        rw [cL] at z
        exact z
      obtain ⟨m, hn, _⟩ := Ix6.loc
      have hn : sx6.heap.Ns ce.locals m := hn
      rw [cL] at hn
      exact fin' _ _ _ _ (fin D sx3.heap.objs.size sx6 m Hx6 Ix7 qq hn (Ix3.fpOk (Nat.le_refl _) nC))
  exact codeAny_compStart_list loop (T.self X.A 0 _ _ _ stx4 loop)
theorem pe_lcN (hc : X.calm = true) (hN : X.N.Nodup) (hi : PI X tg src wi) (ok : BlkOk X.N X.env.scope scope own)
    (hl : ∀ (s : Shared) (H : Hp) (C : Addr) (cl : List (Str × Addr)) (fp : List Addr) (D : Addr), Lvl (X.blk s H scope (compEnvC scope cl C X.env) fp) (.ListComp elt (⟨tg, src, ifs, 0⟩ :: rest) scope pos) 0 tg D (own.map (·.2)) (t D))
    (hs : ∀ z, foldedSetIterable src X.env z = pure z := by intro _; rfl) : PE X (.ListComp elt (⟨tg, src, ifs, 0⟩ :: rest) scope pos) (tLcN wi (own.map (·.2)) t) := by
  refine ⟨fun pins s σ H Q I h => ?_⟩
  rw [eval_ListComp]
  refine lcn_core hc hN I hi ok hs hl h (fun D C s' m H' I' q hn f => ⟨m, hn, fun h'' sb => ?_⟩) fun _ _ _ _ z => z
  obtain ⟨fx0, fx1, fx2, fx3, fx4, fx5⟩ := f
  exact ⟨.ref D, H', I'.turned (t' := s'.toks) (fun b o hb e => (sb.2 b hb).trans e) fx0 fx1 fx3 fx4 fx5, rfl, q⟩
/-- y = [..] where the store goes ahead of the block's end -/
theorem ps_setLcN {i : Nat} {y : Str} {py : Pos} (hc : X.calm = true) (hN : X.N.Nodup) (hy : X.N[i]? = some y) (hyl : X.env.scope.names.lookup y = some .local)
    (hsw : swapsWith (.ListComp elt (⟨tg, src, ifs, 0⟩ :: rest) scope pos) (some (.Name y py)) spos.line X.env = pure true) (hi : PI X tg src wi) (ok : BlkOk X.N X.env.scope scope own)
    (hl : ∀ (s : Shared) (H : Hp) (C : Addr) (cl : List (Str × Addr)) (fp : List Addr) (D : Addr), Lvl (X.blk s H scope (compEnvC scope cl C X.env) fp) (.ListComp elt (⟨tg, src, ifs, 0⟩ :: rest) scope pos) 0 tg D (own.map (·.2)) (t D))
    (hs : ∀ z, foldedSetIterable src X.env z = pure z := by intro _; rfl) : PS X (.Assign [.Name y py] (.ListComp elt (⟨tg, src, ifs, 0⟩ :: rest) scope pos) spos) (tAsg (tLcN wi (own.map (·.2)) t) (gName i)) := by
  refine ⟨fun pins s σ H DD I h => ?_⟩
  rw [exec_Assign_Name_used _ _ _ _ hsw]
  refine wpAny_bind (wpAny_standAt (wpAny_bind ?_))
  show wpAny _ X.A (do let _ ← comprehension (.ListComp elt (⟨tg, src, ifs, 0⟩ :: rest) scope pos) scope X.env (firstIterPos (⟨tg, src, ifs, 0⟩ :: rest) pos) (newList []) false (eval src X.env) (some (assign (.Name y py) X.env))) _ _ s
  have h : tLcN wi (own.map (·.2)) t σ H (fun x Hx1 => gName i x σ Hx1 DD.nx) := h
  refine wpAny_bind (thn (lcn_core (Qf := fun _ s' => SP X pins DD .next s') hc hN I hi ok hs hl h (fun L C s' m H' I' q hn f => ?_) fun _ _ _ _ z => z) fun _ s' hq => wpAny_pure (wpAny_pure hq))
  show wpAny _ _ (assign (.Name y py) X.env (.ref L)) _ _ _
  refine wpAny_assign_Name (store_ok2 (v := V.ref L) I' hN hy (.inl hyl) rfl (fun sx2 Ix2 ⟨a, sb, ha⟩ => ?_) (.inr hyl))
  obtain ⟨fx0, fx1, fx2, fx3, fx4, fx5⟩ := f
  have haC : C ≠ a := by
    rcases ha with z | z
    · rw [z]; exact fx1
    · exact fun e => fx4 y a z e.symm
  exact ⟨m, hn.sameBut sb haC, fun hx3 sb3 => ⟨_, H', Ix2.turned (t' := sx2.toks) (fun b o hb e => (sb3.2 b hb).trans e) fx0 fx1 fx3 fx4 fx5, q⟩⟩
end
end BB

namespace BB
open PySem PySem.Spec PyProof.Rows L2
/-! ### comprehensions over data -/
def wipeD (ρ : DE) : List Nat → DE
  | [] => ρ
  | v :: vs => (wipeD ρ vs).set v .no
def unwipe (ρ ρ2 : DE) : List Nat → DE
  | [] => ρ2
  | v :: vs => match ρ[v]? with
    | some s => (unwipe ρ ρ2 vs).set v s
    | none => unwipe ρ ρ2 vs
section
variable {X : Cx} {K : PySem.W.Frag} {F F' G G' H H' : Hp} {fx : List (Nat × Addr)} {W : WX} {ρ ρ' ρ1 ρ2 : DE} {σ σ' : L2.St} {pos pos' : Pos} {e a b c : Expr} {m ma mb mc : M} {mt mu : MT} {ms mr : MS} {v : V} {d : D} {DD : Ends} {E0 : ME} {vs : List Nat}
theorem wipe_in {i : Nat} : ∀ {vs : List Nat}, i ∈ vs → i < σ.length → (wipe σ vs)[i]? = some none
  | [], h, _ => by cases h
  | v :: vs, h, hl => by
    unfold wipe
    by_cases e : v = i
    · subst e
      rw [List.getElem?_set_self (by rw [wipe_length]; exact hl)]
    · rw [List.getElem?_set_ne e]
      rcases List.mem_cons.mp h with q | q
      · exact absurd q.symm e
      · exact wipe_in q hl
theorem wipe_off : ∀ {vs : List Nat}, Off vs σ σ' → wipe σ' vs = wipe σ vs := fun {vs} h => by
  apply List.ext_getElem?
  intro i
  by_cases hi : i ∈ vs
  · by_cases hl : i < σ.length
    · rw [wipe_in hi hl, wipe_in hi (by rw [← h.1]; exact hl)]
    · rw [List.getElem?_eq_none (by rw [wipe_length, ← h.1]; omega), List.getElem?_eq_none (by rw [wipe_length]; omega)]
  · rw [wipe_out hi, wipe_out hi, h.2 i hi]
theorem off_wipe : Off vs σ (wipe σ vs) := ⟨(wipe_length _ _).symm, fun i hi => wipe_out hi⟩
theorem wipe_wipe : wipe (wipe σ vs) vs = wipe σ vs := wipe_off off_wipe
theorem wipeD_length : ∀ vs : List Nat, (wipeD ρ vs).length = ρ.length
  | [] => rfl
  | v :: vs => by unfold wipeD; rw [List.length_set, wipeD_length vs]
theorem wipeD_get {i : Nat} {s : SV} : ∀ {vs : List Nat}, (wipeD ρ vs)[i]? = some s → (s = .no) ∨ (i ∉ vs ∧ ρ[i]? = some s)
  | [], h => .inr ⟨by simp, h⟩
  | v :: vs, h => by
    unfold wipeD at h
    rcases set_get? h with ⟨rfl, rfl⟩ | ⟨hj, h⟩
    · exact .inl rfl
    · rcases wipeD_get h with z | ⟨z1, z2⟩
      · exact .inl z
      · exact .inr ⟨fun q => by rcases List.mem_cons.mp q with q | q; exact hj q; exact z1 q, z2⟩
theorem fx_out {p : Nat × Addr} (hf : vs.all (fxOk fx) = true) (hp : p ∈ fx) : p.1 ∉ vs := fun hm => by
  have h := List.all_eq_true.mp hf _ hm
  exact fx_ne h p hp rfl
/-- the block's names forgotten, what they owned put by -/
theorem Rep.stash (R : Rep K F G H fx ρ σ) (hf : vs.all (fxOk fx) = true) : ∃ G', Same G G' ∧ Rep K F G' H fx (wipeD ρ vs) (wipe σ vs) ∧ ∀ i a, i ∈ vs → Owns ρ σ i a → ∃ o, G' a = some o := by
  classical
  let G' : Hp := fun a => if ∃ i, i ∈ vs ∧ Owns ρ σ i a then H a else G a
  have g1 : ∀ a, (∃ i, i ∈ vs ∧ Owns ρ σ i a) → G' a = H a := fun a h => if_pos h
  have g2 : ∀ a, ¬ (∃ i, i ∈ vs ∧ Owns ρ σ i a) → G' a = G a := fun a h => if_neg h
  have sg : Same G G' := fun a o q => by
    by_cases h : ∃ i, i ∈ vs ∧ Owns ρ σ i a
    · rw [g1 a h]; exact R.gh _ _ q
    · rw [g2 a h]; exact q
  have aux : ∀ j a, Owns (wipeD ρ vs) (wipe σ vs) j a → j ∉ vs ∧ Owns ρ σ j a := fun j a ⟨x, q, z⟩ => by
    rcases wipeD_get q with rfl | ⟨h1, h2⟩
    · exact z.elim
    · exact ⟨h1, x, h2, by rw [wipe_out h1] at z; exact z⟩
  refine ⟨G', sg, ⟨R.fh, fun a o q => ?_, fun a o q => ?_, by rw [wipeD_length, wipe_length]; exact R.len, fun j x q => ?_, fun j k a q1 q2 => R.nd j k a (aux j a q1).2 (aux k a q2).2, fun p hp => ?_⟩, fun i a hi ho => ?_⟩
  · by_cases h : ∃ i, i ∈ vs ∧ Owns ρ σ i a
    · rw [g1 a h] at q; exact q
    · rw [g2 a h] at q; exact R.gh _ _ q
  · have hn : ¬ ∃ i, i ∈ vs ∧ Owns ρ σ i a := fun ⟨i, hi, ho⟩ => by
      obtain ⟨_, _, z, _⟩ := R.ownH ho
      rw [z] at q; cases q
    rw [g2 a hn]; exact R.fg _ _ q
  · rcases wipeD_get q with rfl | ⟨h1, h2⟩
    · trivial
    · rw [wipe_out h1]
      refine (R.sl j x h2).move (Same.refl F) fun a ha => ?_
      obtain ⟨o, k1, k2, k3, _⟩ := (R.sl j x h2).cell ha
      have hn : ¬ ∃ i, i ∈ vs ∧ Owns ρ σ i a := fun ⟨i, hi, ho⟩ => h1 (by rw [R.nd j i a ⟨x, h2, ha⟩ ho]; exact hi)
      exact ⟨k2, by rw [g2 a hn]; exact k3, rfl⟩
  · rw [wipe_out (fx_out hf hp)]
    exact R.fix p hp
  · obtain ⟨o, z, _⟩ := R.ownH ho
    exact ⟨o, by rw [g1 a ⟨i, hi, ho⟩]; exact z⟩
theorem unwipe_length (hl : ρ.length = ρ2.length) : ∀ vs : List Nat, (unwipe ρ ρ2 vs).length = ρ.length
  | [] => hl.symm
  | v :: vs => by
    unfold unwipe
    split
    · rw [List.length_set, unwipe_length hl vs]
    · exact unwipe_length hl vs
theorem unwipe_get {i : Nat} {s : SV} : ∀ {vs : List Nat}, (unwipe ρ ρ2 vs)[i]? = some s → (i ∈ vs ∧ ρ[i]? = some s) ∨ (ρ2[i]? = some s ∧ (i ∈ vs → ρ[i]? = none))
  | [], h => .inr ⟨h, fun q => by cases q⟩
  | v :: vs, h => by
    unfold unwipe at h
    split at h
    · rename_i x hx
      rcases set_get? h with ⟨rfl, rfl⟩ | ⟨hj, h⟩
      · exact .inl ⟨List.mem_cons_self, hx⟩
      · rcases unwipe_get h with ⟨z1, z2⟩ | ⟨z1, z2⟩
        · exact .inl ⟨List.mem_cons_of_mem _ z1, z2⟩
        · exact .inr ⟨z1, fun q => by rcases List.mem_cons.mp q with q | q; exact absurd q hj; exact z2 q⟩
    · rename_i hx
      rcases unwipe_get h with ⟨z1, z2⟩ | ⟨z1, z2⟩
      · exact .inl ⟨List.mem_cons_of_mem _ z1, z2⟩
      · exact .inr ⟨z1, fun q => by rcases List.mem_cons.mp q with q | q; subst q; exact hx; exact z2 q⟩
/-- .. and taken up again -/
theorem Rep.unstash (R : Rep K F G H fx ρ σ) (hf : vs.all (fxOk fx) = true) (sg : Same G G') (hG : ∀ i a, i ∈ vs → Owns ρ σ i a → ∃ o, G' a = some o) (hGH : Same G' H) (sf : Same F F') (R2 : Rep K F' G' H' fx ρ2 (wipe σ vs)) :
    Rep K F' G H' fx (unwipe ρ ρ2 vs) σ := by
  have hl : ρ.length = ρ2.length := by rw [R.len, R2.len, wipe_length]
  have hno : ∀ (i : Nat), i ∈ vs → ρ[i]? = none → ρ2[i]? = none := fun i _ h => List.getElem?_eq_none (by have := List.getElem?_eq_none_iff.mp h; omega)
  have aux : ∀ j a, Owns (unwipe ρ ρ2 vs) σ j a → (j ∈ vs ∧ Owns ρ σ j a) ∨ (j ∉ vs ∧ Owns ρ2 (wipe σ vs) j a) := fun j a ⟨x, q, z⟩ => by
    rcases unwipe_get q with ⟨h1, h2⟩ | ⟨h1, h2⟩
    · exact .inl ⟨h1, x, h2, z⟩
    · by_cases hj : j ∈ vs
      · rw [hno j hj (h2 hj)] at h1; cases h1
      · exact .inr ⟨hj, x, h1, by rw [wipe_out hj]; exact z⟩
  have apart : ∀ j k a, j ∈ vs → Owns ρ σ j a → Owns ρ2 (wipe σ vs) k a → False := fun j k a h1 h2 h3 => by
    obtain ⟨o, z⟩ := hG j a h1 h2
    obtain ⟨_, _, _, z2, _⟩ := R2.ownH h3
    rw [z] at z2; cases z2
  refine ⟨R2.fh, sg.trans R2.gh, R2.fg.less sg, by rw [unwipe_length hl]; exact R.len, fun j x q => ?_, fun j k a q1 q2 => ?_, R.fix⟩
  · rcases unwipe_get q with ⟨h1, h2⟩ | ⟨h1, h2⟩
    · refine (R.sl j x h2).move sf fun a ha => ?_
      obtain ⟨o, k2, k3, k4, k5⟩ := (R.sl j x h2).cell ha
      obtain ⟨o', z⟩ := hG j a h1 ⟨x, h2, ha⟩
      have e := hGH _ _ z
      rw [k2] at e
      cases e
      refine ⟨?_, k4, by rw [k2]; exact R2.gh _ _ z⟩
      cases q' : F' a with
      | none => rfl
      | some u =>
        rcases R2.fg _ _ q' with w | ⟨_, _, _, w⟩
        · rw [w] at z; cases z
        · rw [w] at z
          cases z
          exact k5.elim
    · have hj : j ∉ vs := fun hj => by rw [hno j hj (h2 hj)] at h1; cases h1
      have h := R2.sl j x h1
      rw [wipe_out hj] at h
      refine h.move (Same.refl F') fun a ha => ?_
      obtain ⟨o, k2, k3, k4, _⟩ := h.cell ha
      exact ⟨k3, sg.free k4, rfl⟩
  · rcases aux j a q1 with ⟨h1, h2⟩ | ⟨h1, h2⟩
    · rcases aux k a q2 with ⟨h3, h4⟩ | ⟨h3, h4⟩
      · exact R.nd j k a h2 h4
      · exact (apart j k a h1 h2 h4).elim
    · rcases aux k a q2 with ⟨h3, h4⟩ | ⟨h3, h4⟩
      · exact (apart k j a h3 h4 h2).elim
      · exact R2.nd j k a h2 h4
/-- the block's names forgotten -/
theorem Rep.wipe (R : Rep K F G H fx ρ σ) (hf : vs.all (fxOk fx) = true) : Rep K F G H fx (wipeD ρ vs) (L2.wipe σ vs) := by
  obtain ⟨G', sg, R', _⟩ := R.stash hf
  exact R'.less sg

/-- a clause's loop: k of what the later clauses have laid on -/
abbrev MK := List D → DE → (List D → DE → Prop) → Prop
def lvlD (g : MG) (mt : MT) (vs : List Nat) (rest : MK) : List D → List D → DE → (List D → DE → Prop) → Prop
  | [], acc, ρ, k => k acc ρ
  | x :: xs, acc, ρ, k => g x (wipeD ρ vs) fun ρ1 => mt ρ1 (fun b ρ2 => if b = true then rest acc ρ2 (fun acc' ρ3 => lvlD g mt vs rest xs acc' ρ3 k) else lvlD g mt vs rest xs acc ρ2 k) fun _ _ _ => False
def kElt (me : M) : MK := fun acc ρ k => me ρ (fun r ρ1 => onC (r.cap ρ1) fun d ρ2 => acc.length < sizeLine ∧ k (acc ++ [d]) ρ2) fun _ _ _ => False
def kNext (mi : ML) (g : MG) (mt : MT) (vs : List Nat) (rest : MK) : MK := fun acc ρ k => mi ρ (fun xs ρ1 => lvlD g mt vs rest xs acc ρ1 (fun acc' ρ2 => k acc' (wipeD ρ2 vs))) fun _ _ _ => False
def mLc (mi : ML) (g : MG) (mt : MT) (vs : List Nat) (rest : MK) : M := fun ρ Q X => mi ρ (fun xs ρ1 => lvlD g mt vs rest xs [] (wipeD ρ1 vs) (fun ys ρ2 => Q (.o (.ow ys)) (unwipe ρ1 (wipeD ρ2 vs) vs))) X
def mYes : MT := fun ρ Q _ => Q true ρ

abbrev W0 : WX := fun _ _ _ _ => False
theorem xok0 {X0 : MX} (h : ∀ c d ρ', ¬ X0 c d ρ') : XOk K G fx W F σ X0 := fun c d ρ' z => (h c d ρ' z).elim
theorem Off.mono {ts us : List Nat} (h : Off ts σ σ') (hs : ∀ i, i ∈ ts → i ∈ us) : Off us σ σ' := ⟨h.1, fun i hi => h.2 i fun z => hi (hs i z)⟩
/-- a foreign cell is written -/
theorem Rep.gset {L : Addr} {o o' : HO} (R : Rep K F (upd G L o) H fx ρ σ) (ho : ∀ x u, o ≠ .frz x u := by intro _ _ z; cases z) : Rep K F (upd G L o') (upd H L o') fx ρ σ := by
  have hF : F L = none := by
    cases q : F L with
    | none => rfl
    | some u =>
      rcases R.fg _ _ q with z | ⟨x, _, _, z⟩
      · rw [upd_same] at z; cases z
      · rw [upd_same] at z; exact absurd (Option.some.inj z) (ho _ _)
  refine ⟨fun b u q => ?_, fun b u q => ?_, fun b u q => ?_, R.len, fun j x q => ?_, R.nd, R.fix⟩
  · rw [upd_ne (ne_of_none q hF)]; exact R.fh _ _ q
  · by_cases hb : b = L
    · subst hb; rw [upd_same] at q ⊢; exact q
    · rw [upd_ne hb] at q ⊢
      exact R.gh b u (by rw [upd_ne hb]; exact q)
  · have hb := ne_of_none q hF
    have z := R.fg _ _ q
    rw [upd_ne hb] at z ⊢
    exact z
  · refine (R.sl j x q).move (Same.refl F) fun a ha => ?_
    obtain ⟨u, k2, k3, k4, _⟩ := (R.sl j x q).cell ha
    have hb : a ≠ L := fun e => by rw [e, upd_same] at k4; cases k4
    exact ⟨k3, by rw [upd_ne hb] at k4 ⊢; exact k4, by rw [upd_ne hb]⟩
theorem FzO.other {Gd : Hp} (fz : FzO Gd) {L : Addr} {av av' : List V} (s : Same Gd (upd G L (.lst av))) : Same Gd (upd G L (.lst av')) := fun b o e => by
  have z := s _ _ e
  by_cases hb : b = L
  · subst hb
    rw [upd_same] at z
    cases z
    obtain ⟨_, _, w⟩ := fz _ _ e
    cases w
  · rw [upd_ne hb] at z ⊢
    exact z
def delL (G : Hp) (L : Addr) : Hp := fun b => if b = L then none else G b
theorem delL_upd {L : Addr} {o : HO} (h : G L = some o) : upd (delL G L) L o = G := by
  funext b
  by_cases hb : b = L
  · subst hb; rw [upd_same, h]
  · rw [upd_ne hb]; exact if_neg hb
theorem delL_more {L : Addr} {av : List V} (s : Same (upd G L (.lst av)) G') (av' : List V) : Same (upd G L (.lst av')) (upd (delL G' L) L (.lst av')) := fun b o e => by
  by_cases hb : b = L
  · subst hb; rw [upd_same] at e ⊢; exact e
  · rw [upd_ne hb] at e ⊢
    show (if b = L then none else G' b) = some o
    rw [if_neg hb]
    exact s _ _ (by rw [upd_ne hb]; exact e)
/-- what a loop, what the rest of a clause answers -/
def KOk (K : PySem.W.Frag) (fx : List (Nat × Addr)) (L : Addr) (vs : List Nat) (t : TK) (md : List D → List D → DE → (List D → DE → Prop) → Prop) : Prop :=
  ∀ {σ : L2.St} {J : It} {H : Hp} {Nx : Hp → Prop} {F G Gd : Hp} {ρ : DE} {xs acc : List D} {av : List V} {kf : List D → DE → Prop}, Rep K F (upd G L (.lst av)) H fx ρ σ → DatL K F av acc → FzO Gd → Same Gd (upd G L (.lst av)) → ItD K F Gd J xs → md xs acc ρ kf →
    (∀ acc' ρ', kf acc' ρ' → ∀ F' H' av', Same F F' → Rep K F' (upd G L (.lst av')) H' fx (wipeD ρ' vs) (wipe σ vs) → DatL K F' av' acc' → Nx H') → t σ J H Nx
def ROk (K : PySem.W.Frag) (fx : List (Nat × Addr)) (L : Addr) (vs : List Nat) (t : L2.St → Hp → (Hp → Prop) → Prop) (mk : MK) : Prop :=
  ∀ {σ : L2.St} {H : Hp} {N : Hp → Prop} {F G : Hp} {ρ : DE} {acc : List D} {av : List V} {kf : List D → DE → Prop}, Rep K F (upd G L (.lst av)) H fx ρ σ → DatL K F av acc → mk acc ρ kf →
    (∀ acc' ρ', kf acc' ρ' → ∀ F' H' av' σ', Same F F' → Off vs σ σ' → Rep K F' (upd G L (.lst av')) H' fx ρ' σ' → DatL K F' av' acc' → N H') → t σ H N
theorem rok_last {L : Addr} : ROk K fx L vs (rLast (tS K fx W0 m) L) (kElt m) := by
  intro σ H N F G ρ acc av kf R da h fin
  refine ⟨F, _, ρ, _, _, R, h, fun r ρ1 h1 F1 H1 v1 s1 R1 k1 => ?_, xok0 fun _ _ _ z => z⟩
  obtain ⟨d, ρ2, e, h2⟩ := onC_some h1
  obtain ⟨F2, s2, R2, k2⟩ := k1.cap R1 e
  exact ⟨av, R2.gh _ _ upd_same, by rw [da.length]; exact h2.1, fin _ _ h2.2 F2 _ _ σ (s1.trans s2) (Off.refl _ _) R2.gset (((da.mono s1).mono s2).append (.cons k2 .nil))⟩
theorem kok_lvl {L : Addr} {g : MG} {rest : L2.St → Hp → (Hp → Prop) → Prop} {mk : MK} {ts : List Nat} (hf : vs.all (fxOk fx) = true) (hts : ∀ i, i ∈ ts → i ∈ vs) (hr : ROk K fx L vs rest mk) :
    KOk K fx L vs (kLvl (tSG K fx ts g) (tST K fx W0 mt) vs rest) (lvlD g mt vs mk) := by
  intro σ J H Nx F G Gd ρ xs acc av kf R da fz sd it h fin
  refine ⟨fun i m H => m = xs.length - i ∧ i ≤ xs.length ∧ ∃ F2 ρ2 acc2 av2, Same F F2 ∧ Rep K F2 (upd G L (.lst av2)) H fx (wipeD ρ2 vs) (wipe σ vs) ∧ DatL K F2 av2 acc2 ∧ lvlD g mt vs mk (xs.drop i) acc2 ρ2 kf,
    ⟨_, rfl, Nat.zero_le _, F, ρ, acc, av, Same.refl F, R.wipe hf, da, h⟩, ?_⟩
  rintro i m H' ⟨rfl, hi, F2, ρ2, acc2, av2, s2, R2, da2, h2⟩
  have it2 := it.mono s2
  by_cases hlt : i < xs.length
  · refine .inr ⟨it2.go i H' R2.fh ((fz.other sd).trans R2.gh) hlt, fun H3 => ∃ F3 ρ3 acc3 av3, Same F F3 ∧ Rep K F3 (upd G L (.lst av3)) H3 fx (wipeD ρ3 vs) (wipe σ vs) ∧ DatL K F3 av3 acc3 ∧ lvlD g mt vs mk (xs.drop (i + 1)) acc3 ρ3 kf,
      fun H3 q => ⟨xs.length - (i + 1), by omega, rfl, hlt, q⟩, fun y H3 hy => ?_⟩
    obtain ⟨d, hd, z⟩ := it2.yld i H' y H3 R2.fh ((fz.other sd).trans R2.gh) hlt hy
    have hdr : xs.drop i = d :: xs.drop (i + 1) := by
      rw [List.drop_eq_getElem_cons hlt]
      congr 1
      rw [List.getElem?_eq_getElem hlt] at hd
      exact Option.some.inj hd
    rw [hdr] at h2
    have go : ∀ F4, Same F2 F4 → Rep K F4 (upd G L (.lst av2)) H3 fx (wipeD ρ2 vs) (wipe σ vs) → Dat K F4 y d → _ := fun F4 s4 R4 d4 =>
      (show tSG K fx ts g y (wipe σ vs) H3 fun σ2 H2 => wipe σ2 vs = wipe σ vs ∧ tST K fx W0 mt σ2 H2 fun b H3 => if b = true then rest σ2 H3 (fun H3 => ∃ F3 ρ3 acc3 av3, Same F F3 ∧ Rep K F3 (upd G L (.lst av3)) H3 fx (wipeD ρ3 vs) (wipe σ vs) ∧ DatL K F3 av3 acc3 ∧ lvlD g mt vs mk (xs.drop (i + 1)) acc3 ρ3 kf) else (∃ F3 ρ3 acc3 av3, Same F F3 ∧ Rep K F3 (upd G L (.lst av3)) H3 fx (wipeD ρ3 vs) (wipe σ vs) ∧ DatL K F3 av3 acc3 ∧ lvlD g mt vs mk (xs.drop (i + 1)) acc3 ρ3 kf) from
        ⟨F4, _, _, d, _, R4, d4, h2, fun ρ5 h5 F5 H5 σ5 s5 o5 R5 => by
          have w5 : wipe σ5 vs = wipe σ vs := (wipe_off (o5.mono hts)).trans wipe_wipe
          refine ⟨w5, F5, _, ρ5, _, _, R5, h5, fun b ρ6 h6 F6 H6 s6 R6 => ?_, xok0 fun _ _ _ z => z⟩
          have sm := ((s2.trans s4).trans s5).trans s6
          cases b with
          | false => exact ⟨F6, ρ6, acc2, av2, sm, by rw [← w5]; exact R6.wipe hf, ((da2.mono s4).mono s5).mono s6, h6⟩
          | true =>
            refine hr R6 (((da2.mono s4).mono s5).mono s6) h6 fun acc' ρ' z F7 H7 av' σ' s7 o7 R7 d7 => ⟨F7, ρ', acc', av', sm.trans s7, ?_, d7, z⟩
            rw [← w5, ← wipe_off o7]
            exact R7.wipe hf⟩)
    rcases z with ⟨rfl, dd⟩ | ⟨p, o, rfl, hp, rfl, dd⟩
    · exact go F2 (Same.refl F2) R2 dd
    · obtain ⟨sm, R4⟩ := R2.newF (o := o) hp
      exact go _ sm R4 (dd _ sm upd_same)
  · have e : i = xs.length := by omega
    subst e
    rw [List.drop_length] at h2
    exact .inl ⟨it2.stop H' R2.fh ((fz.other sd).trans R2.gh), fin _ _ h2 F2 H' av2 s2 R2 da2⟩
theorem rok_mid {L : Addr} {mi : ML} {g : MG} {mk : MK} {kin : TK} {vs1 : List Nat} (hs : ∀ i, i ∈ vs1 → i ∈ vs) (hk : KOk K fx L vs1 kin (lvlD g mt vs1 mk)) : ROk K fx L vs (rMid (tSI K fx W0 mi) kin) (kNext mi g mt vs1 mk) := by
  intro σ H N F G ρ acc av kf R da h fin
  refine ⟨F, _, ρ, _, _, R, h, fun xs ρ1 h1 F1 G1 Gd H1 J s1 sg fz sd R1 it => ?_, xok0 fun _ _ _ z => z⟩
  have e1 := delL_upd (sg _ _ upd_same)
  rw [← e1] at R1 sd
  exact hk R1 (da.mono s1) fz sd it h1 fun acc' ρ' z F2 H2 av' s2 R2 d2 => fin _ _ z F2 H2 av' (wipe σ vs1) (s1.trans s2) (off_wipe.mono hs) (R2.less (delL_more sg av')) d2
theorem unwipe_owns {a : Addr} {j : Nat} (hl : ρ.length = ρ2.length) (h : Owns (unwipe ρ ρ2 vs) σ j a) : (j ∈ vs ∧ Owns ρ σ j a) ∨ (j ∉ vs ∧ Owns ρ2 (wipe σ vs) j a) := by
  obtain ⟨x, q, z⟩ := h
  have hno : ∀ (i : Nat), i ∈ vs → ρ[i]? = none → ρ2[i]? = none := fun i _ h => List.getElem?_eq_none (by have := List.getElem?_eq_none_iff.mp h; omega)
  rcases unwipe_get q with ⟨h1, h2⟩ | ⟨h1, h2⟩
  · exact .inl ⟨h1, x, h2, z⟩
  · by_cases hj : j ∈ vs
    · rw [hno j hj (h2 hj)] at h1; cases h1
    · exact .inr ⟨hj, x, h1, by rw [wipe_out hj]; exact z⟩
theorem ts_lc {mi : ML} {md : List D → List D → DE → (List D → DE → Prop) → Prop} {t : Addr → TK} (hf : vs.all (fxOk fx) = true) (hk : ∀ L, KOk K fx L vs (t L) md) {Q : VK}
    (h : tS K fx W (fun ρ Q X => mi ρ (fun xs ρ1 => md xs [] (wipeD ρ1 vs) (fun ys ρ2 => Q (.o (.ow ys)) (unwipe ρ1 (wipeD ρ2 vs) vs))) X) σ H Q) : tLcN (tSI K fx W mi) vs t σ H Q := by
  obtain ⟨F, G, ρ, Q0, X0, R, h, q, x⟩ := h
  refine ⟨F, G, ρ, _, X0, R, h, fun xs ρ1 h1 F1 G1 Gd H1 J s1 sg1 fz sd R1 it L hL => ?_, x⟩
  obtain ⟨G', sg, Rw, ho⟩ := R1.stash hf
  obtain ⟨Rn, hF, hG, hO⟩ := Rw.new (o := .lst []) hL
  have k0 : RvOk K F1 G' (upd H1 L (.lst [])) (wipeD ρ1 vs) (wipe σ vs) (.o (.ow [])) (.ref L) := ⟨rfl, L, _, rfl, upd_same, hF, hG, .nil, hO⟩
  obtain ⟨sg2, Rl⟩ := Rn.lend k0
  have eg : gx (.o (.ow [])) (.ref L) G' (upd H1 L (.lst [])) = upd G' L (.lst []) := by simp only [gx, upd_same]
  rw [eg] at sg2 Rl
  refine hk L Rl .nil fz ((sd.trans sg).trans sg2) it h1 fun acc' ρ' z F2 H2 av' s2 R2 d2 => ?_
  rw [wipe_wipe] at R2
  have sgL : Same G' (upd G' L (.lst av')) := fun b o e => by rw [upd_ne (ne_of_none e hG)]; exact e
  have R3 := R1.unstash hf sg ho Rw.gh s2 (R2.less sgL)
  have hl : ρ1.length = (wipeD ρ' vs).length := by rw [R1.len, R2.len, wipe_length]
  refine q _ _ z F2 H2 _ (s1.trans s2) (R3.less sg1) (RvOk.less sg1 (?_ : RvOk K F2 G1 H2 _ σ (.o (.ow acc')) (.ref L)))
  refine ⟨rfl, L, _, rfl, R2.gh _ _ upd_same, ?_, sg.free hG, d2, fun j hj => ?_⟩
  · cases e : F2 L with
    | none => rfl
    | some u =>
      rcases R2.fg _ _ e with z2 | ⟨_, _, _, z2⟩
      · rw [upd_same] at z2; cases z2
      · rw [upd_same] at z2; cases z2
  · rcases unwipe_owns hl hj with ⟨y1, y2⟩ | ⟨y1, y2⟩
    · obtain ⟨o, z2⟩ := ho j L y1 y2
      rw [hG] at z2; cases z2
    · obtain ⟨_, _, _, z2, _⟩ := R2.ownH y2
      rw [upd_same] at z2; cases z2
/-! ### the rules -/
abbrev ETs (X : Cx) (fx : List (Nat × Addr)) (ifs : List Expr) (m : MT) : Prop := PTs X ifs (tST X.K fx W0 m)
theorem ets_nil : ETs X fx [] mYes := ⟨fun pins s σ H Q I ⟨F, G, ρ, Q0, X0, R, h, q, x⟩ => pts_nil.run pins s σ H Q I (q _ _ h F H (Same.refl F) R)⟩
theorem ets_one (h : ET X fx W0 c mt) : ETs X fx [c] mt := pts_one h
abbrev InBlk (X : Cx) (scope : Scope) (p : Cx → Prop) : Prop := ∀ (s : Shared) (H : Hp) (C : Addr) (cl : List (Str × Addr)) (fp : List Addr), p (X.blk s H scope (compEnvC scope cl C X.env) fp)
section
variable {elt tg src tg1 src1 tg2 src2 : Expr} {ifs ifs1 ifs2 : List Expr} {scope : Scope} {own : List (Str × Nat)} {mi mi1 mi2 : ML} {g g1 g2 : MG} {mt1 mt2 : MT} {me : M} {ts ts1 ts2 us us2 : List Nat}
theorem lvl1 (hc : X.calm = true) (hg : InBlk X scope fun Y => EG Y fx ts tg g) (ht : InBlk X scope fun Y => ETs Y fx ifs mt) (he : InBlk X scope fun Y => ES Y fx W0 elt me) :
    ∀ (s : Shared) (H : Hp) (C : Addr) (cl : List (Str × Addr)) (fp : List Addr) (L : Addr), Lvl (X.blk s H scope (compEnvC scope cl C X.env) fp) (.ListComp elt [⟨tg, src, ifs, 0⟩] scope pos) 0 tg L vs (kLvl (tSG X.K fx ts g) (tST X.K fx W0 mt) vs (rLast (tS X.K fx W0 me) L)) := fun s H C cl fp L =>
  lvl_last hc rfl (hg s H C cl fp) (ht s H C cl fp) (he s H C cl fp) (fun _ _ _ => rfl) (fun _ _ _ _ _ => rfl) (fun _ _ _ _ => rfl) (fun _ _ _ => rfl)
theorem es_lc1 (own : List (Str × Nat)) (hc : X.calm = true) (hN : X.N.Nodup) (ok : blkC X.N X.env.scope scope own = true) (hf : (own.map (·.2)).all (fxOk fx) = true) (hts : ∀ i, i ∈ ts → i ∈ own.map (·.2))
    (hi : EI X fx W tg src mi) (hg : InBlk X scope fun Y => EG Y fx ts tg g) (ht : InBlk X scope fun Y => ETs Y fx ifs mt) (he : InBlk X scope fun Y => ES Y fx W0 elt me)
    (hs : ∀ z, foldedSetIterable src X.env z = pure z := by intro _; rfl) : ES X fx W (.ListComp elt [⟨tg, src, ifs, 0⟩] scope pos) (mLc mi g mt (own.map (·.2)) (kElt me)) :=
  pe_imp (pe_lcN hc hN hi (blkOk_by ok) (lvl1 hc hg ht he) hs) fun _ _ _ h => ts_lc hf (fun L => kok_lvl hf hts rok_last) h
theorem ss_setLc1 (own : List (Str × Nat)) (j : Nat) {y : Str} {py spos : Pos} (hc : X.calm = true) (hN : X.N.Nodup) (ok : blkC X.N X.env.scope scope own = true) (hf : (own.map (·.2)).all (fxOk fx) = true) (hts : ∀ i, i ∈ ts → i ∈ own.map (·.2))
    (hi : EI X fx W tg src mi) (hg : InBlk X scope fun Y => EG Y fx ts tg g) (ht : InBlk X scope fun Y => ETs Y fx ifs mt) (he : InBlk X scope fun Y => ES Y fx W0 elt me)
    (hsw : swapsWith (.ListComp elt [⟨tg, src, ifs, 0⟩] scope pos) (some (.Name y py)) spos.line X.env = pure true) (hy : X.N[j]? = some y := by rfl) (hyl : X.env.scope.names.lookup y = some .local := by rfl) (hfj : fxOk fx j = true := by rfl)
    (hs : ∀ z, foldedSetIterable src X.env z = pure z := by intro _; rfl) : SS X fx W (.Assign [.Name y py] (.ListComp elt [⟨tg, src, ifs, 0⟩] scope pos) spos) (sSet j (mLc mi g mt (own.map (·.2)) (kElt me))) :=
  ps_imp (ps_setLcN hc hN hy hyl hsw hi (blkOk_by ok) (lvl1 hc hg ht he) hs) fun D σ H h => ts_lc hf (fun L => kok_lvl hf hts rok_last) (ts_set hfj h)
theorem lvl2 (hc : X.calm = true) (hg : InBlk X scope fun Y => EG Y fx ts tg g) (ht : InBlk X scope fun Y => ETs Y fx ifs mt) (hi1 : InBlk X scope fun Y => EI Y fx W0 tg1 src1 mi1) (hg1 : InBlk X scope fun Y => EG Y fx ts1 tg1 g1) (ht1 : InBlk X scope fun Y => ETs Y fx ifs1 mt1)
    (he : InBlk X scope fun Y => ES Y fx W0 elt me) (hu : ∀ i, i ∈ us → i ∈ vs) (hs1 : ∀ env z, foldedSetIterable src1 env z = pure z) :
    ∀ (s : Shared) (H : Hp) (C : Addr) (cl : List (Str × Addr)) (fp : List Addr) (L : Addr), Lvl (X.blk s H scope (compEnvC scope cl C X.env) fp) (.ListComp elt [⟨tg, src, ifs, 0⟩, ⟨tg1, src1, ifs1, 0⟩] scope pos) 0 tg L vs
      (kLvl (tSG X.K fx ts g) (tST X.K fx W0 mt) vs (rMid (tSI X.K fx W0 mi1) (kLvl (tSG X.K fx ts1 g1) (tST X.K fx W0 mt1) us (rLast (tS X.K fx W0 me) L)))) := fun s H C cl fp L =>
  lvl_mid hc rfl (hg s H C cl fp) (ht s H C cl fp) (hi1 s H C cl fp) (lvl_last hc rfl (hg1 s H C cl fp) (ht1 s H C cl fp) (he s H C cl fp) (src := src1) (fun _ _ _ => rfl) (fun _ _ _ _ _ => rfl) (fun _ _ _ _ => rfl) (fun _ _ _ => rfl)) hu
    (src := src) (fun _ _ _ => rfl) (fun _ _ _ _ _ => rfl) (fun _ _ _ _ => rfl) (fun _ _ _ => rfl) rfl (fun _ _ _ _ _ => rfl) (fun _ _ _ _ => rfl) (fun _ _ _ => rfl) hs1
theorem es_lc2 (own : List (Str × Nat)) (us : List Nat) (hc : X.calm = true) (hN : X.N.Nodup) (ok : blkC X.N X.env.scope scope own = true) (hf : (own.map (·.2)).all (fxOk fx) = true) (hts : ∀ i, i ∈ ts → i ∈ own.map (·.2)) (hu : ∀ i, i ∈ us → i ∈ own.map (·.2)) (hts1 : ∀ i, i ∈ ts1 → i ∈ us)
    (hi : EI X fx W tg src mi) (hg : InBlk X scope fun Y => EG Y fx ts tg g) (ht : InBlk X scope fun Y => ETs Y fx ifs mt)
    (hi1 : InBlk X scope fun Y => EI Y fx W0 tg1 src1 mi1) (hg1 : InBlk X scope fun Y => EG Y fx ts1 tg1 g1) (ht1 : InBlk X scope fun Y => ETs Y fx ifs1 mt1) (he : InBlk X scope fun Y => ES Y fx W0 elt me)
    (hs : ∀ z, foldedSetIterable src X.env z = pure z := by intro _; rfl) (hs1 : ∀ env z, foldedSetIterable src1 env z = pure z := by intro _ _; rfl) :
    ES X fx W (.ListComp elt [⟨tg, src, ifs, 0⟩, ⟨tg1, src1, ifs1, 0⟩] scope pos) (mLc mi g mt (own.map (·.2)) (kNext mi1 g1 mt1 us (kElt me))) :=
  have hfu : us.all (fxOk fx) = true := List.all_eq_true.mpr fun i hi => List.all_eq_true.mp hf i (hu i hi)
  pe_imp (pe_lcN hc hN hi (blkOk_by ok) (lvl2 hc hg ht hi1 hg1 ht1 he hu hs1) hs) fun _ _ _ h => ts_lc hf (fun L => kok_lvl hf hts (rok_mid hu (kok_lvl hfu hts1 rok_last))) h
theorem ss_setLc2 (own : List (Str × Nat)) (us : List Nat) (j : Nat) {y : Str} {py spos : Pos} (hc : X.calm = true) (hN : X.N.Nodup) (ok : blkC X.N X.env.scope scope own = true) (hf : (own.map (·.2)).all (fxOk fx) = true) (hts : ∀ i, i ∈ ts → i ∈ own.map (·.2)) (hu : ∀ i, i ∈ us → i ∈ own.map (·.2)) (hts1 : ∀ i, i ∈ ts1 → i ∈ us)
    (hi : EI X fx W tg src mi) (hg : InBlk X scope fun Y => EG Y fx ts tg g) (ht : InBlk X scope fun Y => ETs Y fx ifs mt)
    (hi1 : InBlk X scope fun Y => EI Y fx W0 tg1 src1 mi1) (hg1 : InBlk X scope fun Y => EG Y fx ts1 tg1 g1) (ht1 : InBlk X scope fun Y => ETs Y fx ifs1 mt1) (he : InBlk X scope fun Y => ES Y fx W0 elt me)
    (hsw : swapsWith (.ListComp elt [⟨tg, src, ifs, 0⟩, ⟨tg1, src1, ifs1, 0⟩] scope pos) (some (.Name y py)) spos.line X.env = pure true) (hy : X.N[j]? = some y := by rfl) (hyl : X.env.scope.names.lookup y = some .local := by rfl) (hfj : fxOk fx j = true := by rfl)
    (hs : ∀ z, foldedSetIterable src X.env z = pure z := by intro _; rfl) (hs1 : ∀ env z, foldedSetIterable src1 env z = pure z := by intro _ _; rfl) :
    SS X fx W (.Assign [.Name y py] (.ListComp elt [⟨tg, src, ifs, 0⟩, ⟨tg1, src1, ifs1, 0⟩] scope pos) spos) (sSet j (mLc mi g mt (own.map (·.2)) (kNext mi1 g1 mt1 us (kElt me)))) :=
  have hfu : us.all (fxOk fx) = true := List.all_eq_true.mpr fun i hi => List.all_eq_true.mp hf i (hu i hi)
  ps_imp (ps_setLcN hc hN hy hyl hsw hi (blkOk_by ok) (lvl2 hc hg ht hi1 hg1 ht1 he hu hs1) hs) fun D σ H h => ts_lc hf (fun L => kok_lvl hf hts (rok_mid hu (kok_lvl hfu hts1 rok_last))) (ts_set hfj h)
theorem lvl3 (hc : X.calm = true) (hg : InBlk X scope fun Y => EG Y fx ts tg g) (ht : InBlk X scope fun Y => ETs Y fx ifs mt) (hi1 : InBlk X scope fun Y => EI Y fx W0 tg1 src1 mi1) (hg1 : InBlk X scope fun Y => EG Y fx ts1 tg1 g1) (ht1 : InBlk X scope fun Y => ETs Y fx ifs1 mt1)
    (hi2 : InBlk X scope fun Y => EI Y fx W0 tg2 src2 mi2) (hg2 : InBlk X scope fun Y => EG Y fx ts2 tg2 g2) (ht2 : InBlk X scope fun Y => ETs Y fx ifs2 mt2)
    (he : InBlk X scope fun Y => ES Y fx W0 elt me) (hu : ∀ i, i ∈ us → i ∈ vs) (hu2 : ∀ i, i ∈ us2 → i ∈ us) (hs1 : ∀ env z, foldedSetIterable src1 env z = pure z) (hs2 : ∀ env z, foldedSetIterable src2 env z = pure z) :
    ∀ (s : Shared) (H : Hp) (C : Addr) (cl : List (Str × Addr)) (fp : List Addr) (L : Addr), Lvl (X.blk s H scope (compEnvC scope cl C X.env) fp) (.ListComp elt [⟨tg, src, ifs, 0⟩, ⟨tg1, src1, ifs1, 0⟩, ⟨tg2, src2, ifs2, 0⟩] scope pos) 0 tg L vs
      (kLvl (tSG X.K fx ts g) (tST X.K fx W0 mt) vs (rMid (tSI X.K fx W0 mi1) (kLvl (tSG X.K fx ts1 g1) (tST X.K fx W0 mt1) us (rMid (tSI X.K fx W0 mi2) (kLvl (tSG X.K fx ts2 g2) (tST X.K fx W0 mt2) us2 (rLast (tS X.K fx W0 me) L)))))) := fun s H C cl fp L =>
  lvl_mid hc rfl (hg s H C cl fp) (ht s H C cl fp) (hi1 s H C cl fp)
    (lvl_mid hc rfl (hg1 s H C cl fp) (ht1 s H C cl fp) (hi2 s H C cl fp) (lvl_last hc rfl (hg2 s H C cl fp) (ht2 s H C cl fp) (he s H C cl fp) (src := src2) (fun _ _ _ => rfl) (fun _ _ _ _ _ => rfl) (fun _ _ _ _ => rfl) (fun _ _ _ => rfl)) hu2
      (src := src1) (fun _ _ _ => rfl) (fun _ _ _ _ _ => rfl) (fun _ _ _ _ => rfl) (fun _ _ _ => rfl) rfl (fun _ _ _ _ _ => rfl) (fun _ _ _ _ => rfl) (fun _ _ _ => rfl) hs2) hu
    (src := src) (fun _ _ _ => rfl) (fun _ _ _ _ _ => rfl) (fun _ _ _ _ => rfl) (fun _ _ _ => rfl) rfl (fun _ _ _ _ _ => rfl) (fun _ _ _ _ => rfl) (fun _ _ _ => rfl) hs1
theorem ss_setLc3 (own : List (Str × Nat)) (us us2 : List Nat) (j : Nat) {y : Str} {py spos : Pos} (hc : X.calm = true) (hN : X.N.Nodup) (ok : blkC X.N X.env.scope scope own = true) (hf : (own.map (·.2)).all (fxOk fx) = true) (hts : ∀ i, i ∈ ts → i ∈ own.map (·.2)) (hu : ∀ i, i ∈ us → i ∈ own.map (·.2)) (hts1 : ∀ i, i ∈ ts1 → i ∈ us)
    (hu2 : ∀ i, i ∈ us2 → i ∈ us) (hts2 : ∀ i, i ∈ ts2 → i ∈ us2)
    (hi : EI X fx W tg src mi) (hg : InBlk X scope fun Y => EG Y fx ts tg g) (ht : InBlk X scope fun Y => ETs Y fx ifs mt)
    (hi1 : InBlk X scope fun Y => EI Y fx W0 tg1 src1 mi1) (hg1 : InBlk X scope fun Y => EG Y fx ts1 tg1 g1) (ht1 : InBlk X scope fun Y => ETs Y fx ifs1 mt1)
    (hi2 : InBlk X scope fun Y => EI Y fx W0 tg2 src2 mi2) (hg2 : InBlk X scope fun Y => EG Y fx ts2 tg2 g2) (ht2 : InBlk X scope fun Y => ETs Y fx ifs2 mt2) (he : InBlk X scope fun Y => ES Y fx W0 elt me)
    (hsw : swapsWith (.ListComp elt [⟨tg, src, ifs, 0⟩, ⟨tg1, src1, ifs1, 0⟩, ⟨tg2, src2, ifs2, 0⟩] scope pos) (some (.Name y py)) spos.line X.env = pure true) (hy : X.N[j]? = some y := by rfl) (hyl : X.env.scope.names.lookup y = some .local := by rfl) (hfj : fxOk fx j = true := by rfl)
    (hs : ∀ z, foldedSetIterable src X.env z = pure z := by intro _; rfl) (hs1 : ∀ env z, foldedSetIterable src1 env z = pure z := by intro _ _; rfl) (hs2 : ∀ env z, foldedSetIterable src2 env z = pure z := by intro _ _; rfl) :
    SS X fx W (.Assign [.Name y py] (.ListComp elt [⟨tg, src, ifs, 0⟩, ⟨tg1, src1, ifs1, 0⟩, ⟨tg2, src2, ifs2, 0⟩] scope pos) spos) (sSet j (mLc mi g mt (own.map (·.2)) (kNext mi1 g1 mt1 us (kNext mi2 g2 mt2 us2 (kElt me))))) :=
  have hfu : us.all (fxOk fx) = true := List.all_eq_true.mpr fun i hi => List.all_eq_true.mp hf i (hu i hi)
  have hfu2 : us2.all (fxOk fx) = true := List.all_eq_true.mpr fun i hi => List.all_eq_true.mp hfu i (hu2 i hi)
  ps_imp (ps_setLcN hc hN hy hyl hsw hi (blkOk_by ok) (lvl3 hc hg ht hi1 hg1 ht1 hi2 hg2 ht2 he hu hu2 hs1 hs2) hs) fun D σ H h => ts_lc hf (fun L => kok_lvl hf hts (rok_mid hu (kok_lvl hfu hts1 (rok_mid hu2 (kok_lvl hfu2 hts2 rok_last))))) (ts_set hfj h)
end
end
end BB

namespace BB
open PySem PySem.Spec PyProof.Rows L2
/-! ### calls -/
/-- an argument: data, or a slot that is lent -/
inductive AA where
  | d (x : D)
  | ln (j : Nat)
def AA.sv (ρ : DE) : AA → SV
  | .d x => .fz x
  | .ln j => match ρ[j]? with
    | some s => s
    | none => .no
def lentOf : List AA → List Nat
  | [] => []
  | .d _ :: as => lentOf as
  | .ln j :: as => j :: lentOf as
def giveBack : List AA → DE → DE → DE
  | .d _ :: as, _ :: ρa, ρ => giveBack as ρa ρ
  | .ln j :: as, s :: ρa, ρ => (giveBack as ρa ρ).set j s
  | _, _, ρ => ρ
abbrev MA := DE → (List AA → DE → Prop) → MX → Prop
def AaOk (K : PySem.W.Frag) (F : Hp) (ρ : DE) (σ : L2.St) : List AA → List V → Prop
  | [], [] => True
  | .d x :: as, v :: vs => Dat K F v x ∧ AaOk K F ρ σ as vs
  | .ln j :: as, v :: vs => σ[j]? = some (some v) ∧ AaOk K F ρ σ as vs
  | _, _ => False
def tSA (K : PySem.W.Frag) (fx : List (Nat × Addr)) (W : WX) (m : MA) : TA := fun σ H Q => ∃ F G ρ Q0 X0, Rep K F G H fx ρ σ ∧ m ρ Q0 X0 ∧
  (∀ as ρ', Q0 as ρ' → ∀ F' H' vs, Same F F' → Rep K F' G H' fx ρ' σ → AaOk K F' ρ' σ as vs → Q vs H') ∧ XOk K G fx W F σ X0
abbrev EA (X : Cx) (fx : List (Nat × Addr)) (W : WX) (es : List Expr) (m : MA) : Prop := PA X es (tSA X.K fx W m)
def aNil : MA := fun ρ Q _ => Q [] ρ
def aCons (m : M) (ma : MA) : MA := fun ρ Q X => m ρ (fun r ρ1 => onC (r.cap ρ1) fun x ρ2 => ma ρ2 (fun as ρ3 => Q (.d x :: as) ρ3) X) X
def aLend (j : Nat) (ma : MA) : MA := fun ρ Q X => match ρ[j]? with
  | some (.ow _) => ma ρ (fun as ρ3 => Q (.ln j :: as) ρ3) X
  | some (.oi _ _) => ma ρ (fun as ρ3 => Q (.ln j :: as) ρ3) X
  | some (.od _) => ma ρ (fun as ρ3 => Q (.ln j :: as) ρ3) X
  | some (.tr (.ow _) _) => ma ρ (fun as ρ3 => Q (.ln j :: as) ρ3) X
  | some (.tr (.oi _ _) _) => ma ρ (fun as ρ3 => Q (.ln j :: as) ρ3) X
  | some (.tr (.od _) _) => ma ρ (fun as ρ3 => Q (.ln j :: as) ρ3) X
  | _ => False
section
variable {X : Cx} {K : PySem.W.Frag} {F F' G G' H H' : Hp} {fx : List (Nat × Addr)} {W : WX} {ρ ρ' ρ1 ρ2 : DE} {σ σ' : L2.St} {pos pos' : Pos} {e a b c : Expr} {es : List Expr} {m mb mc : M} {ma : MA} {v : V} {d : D}
theorem AaOk.mono (s : Same F F') : ∀ {as : List AA} {vs : List V}, AaOk K F ρ σ as vs → AaOk K F' ρ' σ as vs
  | [], [], _ => trivial
  | .d x :: as, v :: vs, h => ⟨h.1.mono s, AaOk.mono s h.2⟩
  | .ln j :: as, v :: vs, h => ⟨h.1, AaOk.mono s h.2⟩
  | [], _ :: _, h => h.elim
  | .d _ :: _, [], h => h.elim
  | .ln _ :: _, [], h => h.elim
theorem ea_nil : EA X fx W [] aNil := pa_imp pa_nil fun σ H Q ⟨F, G, ρ, Q0, X0, R, h, q, x⟩ => q _ _ h F H _ (Same.refl F) R trivial
theorem ea_cons (hm : ES X fx W e m) (hr : EA X fx W es ma) (he : starEach (e :: es) X.env = (false, eval e X.env) :: starEach es X.env := by rfl) : EA X fx W (e :: es) (aCons m ma) := by
  refine pa_imp (pa_cons hm hr he) fun σ H Q ⟨F, G, ρ, Q0, X0, R, h, q, x⟩ => ⟨F, G, ρ, _, X0, R, h, fun r ρ1 h1 F1 H1 v1 s1 R1 k1 => ?_, x⟩
  obtain ⟨d, ρ2, e, h1⟩ := onC_some h1
  obtain ⟨F2, s2, R2, k2⟩ := k1.cap R1 e
  exact ⟨F2, G, ρ2, _, X0, R2, h1, fun ds ρ3 h3 F3 H3 vs s3 R3 k3 => q _ _ h3 F3 H3 _ ((s1.trans s2).trans s3) R3 ⟨k2.mono s3, k3⟩, x.mono (s1.trans s2)⟩
theorem ea_lend (j : Nat) {x : Str} (hr : EA X fx W es ma) (hN : X.N[j]? = some x := by rfl) (hv : Vis X.env.scope x := by first | exact Or.inl rfl | exact Or.inr (Or.inl rfl) | exact Or.inr (Or.inr rfl)) (hd : (x == ("__debug__" : Str)) = false := by decide)
    (hcd : (x == ("__classdict__" : Str)) = false := by decide) (he : starEach (.Name x pos :: es) X.env = (false, eval (.Name x pos) X.env) :: starEach es X.env := by rfl) : EA X fx W (.Name x pos :: es) (aLend j ma) := by
  refine pa_imp (pa_cons (pe_var hN hv hd hcd) hr he) fun σ H Q ⟨F, G, ρ, Q0, X0, R, h, q, x⟩ => ?_
  unfold aLend at h
  cases e1 : ρ[j]? with
  | none => rw [e1] at h; exact h.elim
  | some s =>
    rw [e1] at h
    cases s with
    | no => exact h.elim
    | fz _ => exact h.elim
    | ow xs =>
      obtain ⟨a, o, hv, _⟩ := R.sl j _ e1
      exact ⟨_, hv, F, G, ρ, _, X0, R, h, fun as ρ3 h3 F3 H3 vs s3 R3 k3 => q _ _ h3 F3 H3 _ s3 R3 ⟨hv, k3⟩, x⟩
    | oi c fs =>
      obtain ⟨a, o, hv, _⟩ := R.sl j _ e1
      exact ⟨_, hv, F, G, ρ, _, X0, R, h, fun as ρ3 h3 F3 H3 vs s3 R3 k3 => q _ _ h3 F3 H3 _ s3 R3 ⟨hv, k3⟩, x⟩
    | od kvs =>
      obtain ⟨a, o, hv, _⟩ := R.sl j _ e1
      exact ⟨_, hv, F, G, ρ, _, X0, R, h, fun as ρ3 h3 F3 H3 vs s3 R3 k3 => q _ _ h3 F3 H3 _ s3 R3 ⟨hv, k3⟩, x⟩
    | tr s1 g =>
      have hs := R.sl j _ e1
      cases s1 <;> first
        | exact h.elim
        | (obtain ⟨a, hv⟩ := SlOk.lnd hs rfl
           exact ⟨_, hv, F, G, ρ, _, X0, R, h, fun as ρ3 h3 F3 H3 vs s3 R3 k3 => q _ _ h3 F3 H3 _ s3 R3 ⟨hv, k3⟩, x⟩)
theorem aa_len : ∀ {as : List AA} {vs : List V}, AaOk K F ρ σ as vs → as.length = vs.length
  | [], [], _ => rfl
  | .d _ :: as, _ :: vs, h => by rw [List.length_cons, List.length_cons, aa_len h.2]
  | .ln _ :: as, _ :: vs, h => by rw [List.length_cons, List.length_cons, aa_len h.2]
  | [], _ :: _, h => h.elim
  | .d _ :: _, [], h => h.elim
  | .ln _ :: _, [], h => h.elim
theorem aa_get : ∀ {as : List AA} {vs : List V} {i : Nat} {x : AA}, AaOk K F ρ σ as vs → as[i]? = some x → ∃ v, vs[i]? = some v ∧ (match x with | .d x => Dat K F v x | .ln j => σ[j]? = some (some v))
  | [], [], i, x, _, e => by simp at e
  | .d _ :: as, v :: vs, 0, x, h, e => by simp at e; subst e; exact ⟨v, rfl, h.1⟩
  | .ln _ :: as, v :: vs, 0, x, h, e => by simp at e; subst e; exact ⟨v, rfl, h.1⟩
  | .d _ :: as, _ :: vs, i + 1, x, h, e => by
    obtain ⟨v, h1, h2⟩ := aa_get (i := i) (x := x) h.2 (by simpa using e)
    exact ⟨v, by simpa using h1, h2⟩
  | .ln _ :: as, _ :: vs, i + 1, x, h, e => by
    obtain ⟨v, h1, h2⟩ := aa_get (i := i) (x := x) h.2 (by simpa using e)
    exact ⟨v, by simpa using h1, h2⟩
  | [], _ :: _, _, _, h, _ => h.elim
  | .d _ :: _, [], _, _, h, _ => h.elim
  | .ln _ :: _, [], _, _, h, _ => h.elim
theorem lent_mem : ∀ {as : List AA} {i j : Nat}, as[i]? = some (.ln j) → j ∈ lentOf as
  | [], i, j, h => by simp at h
  | .d _ :: as, 0, j, h => by simp at h
  | .ln k :: as, 0, j, h => by simp at h; subst h; exact List.mem_cons_self
  | .d _ :: as, i + 1, j, h => lent_mem (as := as) (i := i) (by simpa using h)
  | .ln k :: as, i + 1, j, h => List.mem_cons_of_mem _ (lent_mem (as := as) (i := i) (by simpa using h))
theorem mem_lent : ∀ {as : List AA} {j : Nat}, j ∈ lentOf as → ∃ i : Nat, as[i]? = some (.ln j)
  | [], j, h => by cases h
  | .d _ :: as, j, h => by obtain ⟨i, e⟩ := mem_lent (as := as) h; exact ⟨i + 1, by simpa using e⟩
  | .ln k :: as, j, h => by
    rcases List.mem_cons.mp h with rfl | h
    · exact ⟨0, rfl⟩
    · obtain ⟨i, e⟩ := mem_lent (as := as) h; exact ⟨i + 1, by simpa using e⟩
theorem lent_inj : ∀ {as : List AA} {i i' j : Nat}, (lentOf as).Nodup → as[i]? = some (.ln j) → as[i']? = some (.ln j) → i = i'
  | [], i, _, j, _, h, _ => by simp at h
  | .d _ :: as, 0, _, j, _, h, _ => by simp at h
  | .d _ :: as, _ + 1, 0, j, _, _, h => by simp at h
  | .d _ :: as, i + 1, i' + 1, j, n, h, h' => by rw [lent_inj (as := as) (i := i) (i' := i') n (by simpa using h) (by simpa using h')]
  | .ln k :: as, 0, 0, j, n, h, h' => rfl
  | .ln k :: as, 0, i' + 1, j, n, h, h' => by
    simp at h; subst h
    exact absurd (lent_mem (as := as) (i := i') (by simpa using h')) (List.nodup_cons.mp n).1
  | .ln k :: as, i + 1, 0, j, n, h, h' => by
    simp at h'; subst h'
    exact absurd (lent_mem (as := as) (i := i) (by simpa using h)) (List.nodup_cons.mp n).1
  | .ln k :: as, i + 1, i' + 1, j, n, h, h' => by rw [lent_inj (as := as) (i := i) (i' := i') (List.nodup_cons.mp n).2 (by simpa using h) (by simpa using h')]
/-- into a call: what is not lent is foreign -/
theorem Rep.callIn (R : Rep K F G H fx ρ σ) {as : List AA} {vs : List V} (h : AaOk K F ρ σ as vs) (hn : (lentOf as).Nodup) :
    ∃ G', Same G G' ∧ Rep K F G' H [] (as.map (AA.sv ρ)) (vs.map some) ∧ ∀ i a, i ∉ lentOf as → Owns ρ σ i a → ∃ o, G' a = some o := by
  classical
  let G' : Hp := fun a => if ∃ i, i ∉ lentOf as ∧ Owns ρ σ i a then H a else G a
  have g1 : ∀ a, (∃ i, i ∉ lentOf as ∧ Owns ρ σ i a) → G' a = H a := fun a h => if_pos h
  have g2 : ∀ a, ¬ (∃ i, i ∉ lentOf as ∧ Owns ρ σ i a) → G' a = G a := fun a h => if_neg h
  have sg : Same G G' := fun a o q => by
    by_cases h : ∃ i, i ∉ lentOf as ∧ Owns ρ σ i a
    · rw [g1 a h]; exact R.gh _ _ q
    · rw [g2 a h]; exact q
  have at_ : ∀ (i : Nat) (s : SV), (as.map (AA.sv ρ))[i]? = some s → (∃ x v, as[i]? = some (.d x) ∧ s = .fz x ∧ vs[i]? = some v ∧ Dat K F v x) ∨ (∃ j v, as[i]? = some (.ln j) ∧ vs[i]? = some v ∧ σ[j]? = some (some v) ∧ ((ρ[j]? = some s) ∨ s = .no)) := fun i s e => by
    rw [List.getElem?_map] at e
    cases e1 : as[i]? with
    | none => rw [e1] at e; cases e
    | some x =>
      rw [e1] at e
      have e2 : AA.sv ρ x = s := Option.some.inj e
      obtain ⟨v, hv, hx⟩ := aa_get h e1
      cases x with
      | d y => exact .inl ⟨y, v, rfl, e2.symm, hv, hx⟩
      | ln j =>
        refine .inr ⟨j, v, rfl, hv, hx, ?_⟩
        cases e3 : ρ[j]? with
        | none => simp only [AA.sv, e3] at e2; exact .inr e2.symm
        | some y => simp only [AA.sv, e3] at e2; exact .inl (by rw [e2])
  have aux : ∀ i a, Owns (as.map (AA.sv ρ)) (vs.map some) i a → ∃ j, as[i]? = some (.ln j) ∧ Owns ρ σ j a := fun i a ⟨s, q, z⟩ => by
    rcases at_ i s q with ⟨x, v, _, rfl, _⟩ | ⟨j, v, e1, e2, e3, e4⟩
    · exact z.elim
    · rcases e4 with e4 | rfl
      · rw [List.getElem?_map, e2] at z
        exact ⟨j, e1, s, e4, by rw [e3]; exact z⟩
      · exact z.elim
  refine ⟨G', sg, ⟨R.fh, fun a o q => ?_, fun a o q => ?_, by rw [List.length_map, List.length_map, aa_len h], fun i s q => ?_, fun i k a q1 q2 => ?_, fun p hp => by cases hp⟩, fun i a hi ho => ?_⟩
  · by_cases h : ∃ i, i ∉ lentOf as ∧ Owns ρ σ i a
    · rw [g1 a h] at q; exact q
    · rw [g2 a h] at q; exact R.gh _ _ q
  · have hn : ¬ ∃ i, i ∉ lentOf as ∧ Owns ρ σ i a := fun ⟨i, hi, ho⟩ => by
      obtain ⟨_, _, z, _⟩ := R.ownH ho
      rw [z] at q; cases q
    rw [g2 a hn]; exact R.fg _ _ q
  · rcases at_ i s q with ⟨x, v, _, rfl, e2, e3⟩ | ⟨j, v, e1, e2, e3, e4⟩
    · exact ⟨v, by rw [List.getElem?_map, e2]; rfl, e3⟩
    · rcases e4 with e4 | rfl
      · have hsl := R.sl j s e4
        rw [e3] at hsl
        rw [List.getElem?_map, e2]
        refine SlOk.move (Same.refl F) hsl fun a ha => ?_
        obtain ⟨o, k2, k3, k4, _⟩ := SlOk.cell hsl ha
        have hn' : ¬ ∃ i, i ∉ lentOf as ∧ Owns ρ σ i a := fun ⟨i', hi, ho⟩ => hi (by rw [R.nd i' j a ho ⟨s, e4, by rw [e3]; exact ha⟩]; exact lent_mem e1)
        exact ⟨k3, by rw [g2 a hn']; exact k4, rfl⟩
      · trivial
  · obtain ⟨j, e1, o1⟩ := aux i a q1
    obtain ⟨l, e2, o2⟩ := aux k a q2
    have ejl := R.nd j l a o1 o2
    subst ejl
    exact lent_inj hn e1 e2
  · obtain ⟨o, z, _⟩ := R.ownH ho
    exact ⟨o, by rw [g1 a ⟨i, hi, ho⟩]; exact z⟩
theorem gb_length : ∀ (as : List AA) (ρa ρ : DE), (giveBack as ρa ρ).length = ρ.length
  | [], _, _ => by unfold giveBack; rfl
  | .d _ :: as, [], ρ => by unfold giveBack; rfl
  | .ln _ :: as, [], ρ => by unfold giveBack; rfl
  | .d _ :: as, _ :: ρa, ρ => by unfold giveBack; exact gb_length as ρa ρ
  | .ln _ :: as, _ :: ρa, ρ => by unfold giveBack; rw [List.length_set]; exact gb_length as ρa ρ
theorem gb_get : ∀ {as : List AA} {ρa ρ : DE} {j : Nat} {s : SV}, as.length = ρa.length → (giveBack as ρa ρ)[j]? = some s → (j ∉ lentOf as ∧ ρ[j]? = some s) ∨ ∃ i : Nat, as[i]? = some (.ln j) ∧ ρa[i]? = some s
  | [], ρa, ρ, j, s, _, h => by unfold giveBack at h; exact .inl ⟨(by unfold lentOf; simp), h⟩
  | .d _ :: as, [], ρ, j, s, hl, h => by simp at hl
  | .ln _ :: as, [], ρ, j, s, hl, h => by simp at hl
  | .d _ :: as, x :: ρa, ρ, j, s, hl, h => by
    unfold giveBack at h
    rcases gb_get (as := as) (ρa := ρa) (by simpa using hl) h with z | ⟨i, e1, e2⟩
    · exact .inl z
    · exact .inr ⟨i + 1, by simpa using e1, by simpa using e2⟩
  | .ln k :: as, x :: ρa, ρ, j, s, hl, h => by
    unfold giveBack at h
    rcases set_get? h with ⟨rfl, rfl⟩ | ⟨hj, h⟩
    · exact .inr ⟨0, rfl, rfl⟩
    · rcases gb_get (as := as) (ρa := ρa) (by simpa using hl) h with ⟨z1, z2⟩ | ⟨i, e1, e2⟩
      · exact .inl ⟨fun q => by rcases List.mem_cons.mp q with q | q; exact hj q; exact z1 q, z2⟩
      · exact .inr ⟨i + 1, by simpa using e1, by simpa using e2⟩
/-- out of a call -/
theorem Rep.callOut (R : Rep K F G H fx ρ σ) {as : List AA} {vs : List V} (h : AaOk K F ρ σ as vs) (sg : Same G G') (hGH : Same G' H) (hG : ∀ i a, i ∉ lentOf as → Owns ρ σ i a → ∃ o, G' a = some o) (sf : Same F F') {ρa : DE} (R2 : Rep K F' G' H' [] ρa (vs.map some)) :
    Rep K F' G H' fx (giveBack as ρa ρ) σ ∧ (∀ s v, RvOk K F' G' H' ρa (vs.map some) (.o s) v → RvOk K F' G H' (giveBack as ρa ρ) σ (.o s) v) ∧ ∀ s v, RvOk K F' G' H' ρa (vs.map some) (.t s) v → RvOk K F' G H' (giveBack as ρa ρ) σ (.t s) v := by
  have hl : as.length = ρa.length := by rw [R2.len, List.length_map, aa_len h]
  have val : ∀ (i j : Nat), as[i]? = some (.ln j) → ∃ v, vs[i]? = some v ∧ σ[j]? = some (some v) ∧ (vs.map some)[i]? = some (some v) := fun i j e => by
    obtain ⟨v, h1, h2⟩ := aa_get h e
    exact ⟨v, h1, h2, by rw [List.getElem?_map, h1]; rfl⟩
  have aux : ∀ j a, Owns (giveBack as ρa ρ) σ j a → (j ∉ lentOf as ∧ Owns ρ σ j a) ∨ ∃ i, as[i]? = some (.ln j) ∧ Owns ρa (vs.map some) i a := fun j a ⟨s, q, z⟩ => by
    rcases gb_get hl q with ⟨h1, h2⟩ | ⟨i, e1, e2⟩
    · exact .inl ⟨h1, s, h2, z⟩
    · obtain ⟨v, v1, v2, v3⟩ := val i j e1
      rw [v2] at z
      exact .inr ⟨i, e1, s, e2, by rw [v3]; exact z⟩
  have apart : ∀ j i a, j ∉ lentOf as → Owns ρ σ j a → Owns ρa (vs.map some) i a → False := fun j i a h1 h2 h3 => by
    obtain ⟨o, z⟩ := hG j a h1 h2
    obtain ⟨_, _, _, z2, _⟩ := R2.ownH h3
    rw [z] at z2; cases z2
  refine ⟨⟨R2.fh, sg.trans R2.gh, R2.fg.less sg, by rw [gb_length]; exact R.len, fun j x q => ?_, fun j k a q1 q2 => ?_, R.fix⟩, fun s v hv => ?_, fun s v hv => ?_⟩
  · rcases gb_get hl q with ⟨h1, h2⟩ | ⟨i, e1, e2⟩
    · refine (R.sl j x h2).move sf fun a ha => ?_
      obtain ⟨o, k2, k3, k4, k5⟩ := (R.sl j x h2).cell ha
      obtain ⟨o', z⟩ := hG j a h1 ⟨x, h2, ha⟩
      have e := hGH _ _ z
      rw [k2] at e
      cases e
      refine ⟨?_, k4, by rw [k2]; exact R2.gh _ _ z⟩
      cases q' : F' a with
      | none => rfl
      | some u =>
        rcases R2.fg _ _ q' with w | ⟨_, _, _, w⟩
        · rw [w] at z; cases z
        · rw [w] at z
          cases z
          exact k5.elim
    · obtain ⟨v, v1, v2, v3⟩ := val i j e1
      have hs := R2.sl i x e2
      rw [v3] at hs
      rw [v2]
      refine SlOk.move (Same.refl F') hs fun a ha => ?_
      obtain ⟨o, k2, k3, k4, _⟩ := SlOk.cell hs ha
      exact ⟨k3, sg.free k4, rfl⟩
  · rcases aux j a q1 with ⟨h1, h2⟩ | ⟨i, e1, h2⟩
    · rcases aux k a q2 with ⟨h3, h4⟩ | ⟨i', e2, h4⟩
      · exact R.nd j k a h2 h4
      · exact (apart j i' a h1 h2 h4).elim
    · rcases aux k a q2 with ⟨h3, h4⟩ | ⟨i', e2, h4⟩
      · exact (apart k i a h3 h4 h2).elim
      · have := R2.nd i i' a h2 h4
        subst this
        rw [e1] at e2
        cases e2
        rfl
  · obtain ⟨hs, a, o, rfl, h1, h2, h3, h4, h5⟩ := hv
    refine ⟨hs, a, o, rfl, h1, h2, sg.free h3, h4, fun j hj => ?_⟩
    rcases aux j a hj with ⟨y1, y2⟩ | ⟨i, e1, y2⟩
    · obtain ⟨o', z⟩ := hG j a y1 y2
      rw [h3] at z; cases z
    · exact h5 i y2
  · obtain ⟨h1, h2⟩ := hv
    refine ⟨h1.move (Same.refl F') fun a ha => ?_, fun a ha j hj => ?_⟩
    · obtain ⟨o, k2, k3, k4, _⟩ := h1.cell ha
      exact ⟨k3, sg.free k4, rfl⟩
    · obtain ⟨o, k2, k3, k4, _⟩ := h1.cell ha
      rcases aux j a hj with ⟨y1, y2⟩ | ⟨i, e1, y2⟩
      · obtain ⟨o', z⟩ := hG j a y1 y2
        rw [k4] at z; cases z
      · exact h2 a ha i y2
/-- what a def promises: a reading over its arguments' slots -/
abbrev FS := M
def WF (E : XK) : WX := fun c d _ H => E c d H
def spF (K : PySem.W.Frag) (n : Nat) (fs : FS) : Sp := fun vs H Q E => vs.length = n ∧ tS K [] (WF E) fs (vs.map some) H Q
def okRes (r : RV) (k : RV → Prop) : Prop := match r with
  | .sl _ => False
  | .gr _ _ => False
  | r => k r
def mCall (n : Nat) (fs : FS) (ma : MA) : M := fun ρ Q X => ma ρ (fun as ρ1 => as.length = n ∧ (lentOf as).Nodup ∧ fs (as.map (AA.sv ρ1)) (fun r ρa => okRes r fun r => Q r (giveBack as ρa ρ1)) (fun c d ρa => X c d (giveBack as ρa ρ1))) X
/-- a call's reading at values -/
theorem sp_call {n : Nat} {fs : FS} {as : List AA} {vs : List V} {Q0 : MQ} {X0 : MX} {Q : VK} {E : XK} (R : Rep K F G H fx ρ σ) (h : AaOk K F ρ σ as vs) (hlen : vs.length = n) (hn : (lentOf as).Nodup)
    (hf : fs (as.map (AA.sv ρ)) (fun r ρa => okRes r fun r => Q0 r (giveBack as ρa ρ)) (fun c d ρa => X0 c d (giveBack as ρa ρ)))
    (q : ∀ r ρ', Q0 r ρ' → ∀ F' H' v, Same F F' → Rep K F' G H' fx ρ' σ → RvOk K F' G H' ρ' σ r v → Q v H')
    (x : ∀ c d ρ', X0 c d ρ' → ∀ F' H' v dx, Same F F' → Rep K F' G H' fx ρ' σ → H' dx = some (.xd [(("value" : Str), v)]) → Dat K F' v d → F' dx = none → G dx = none → E (.ref c) (some dx) H') : spF K n fs vs H Q E := by
  obtain ⟨G', sg, Ra, hG⟩ := R.callIn h hn
  refine ⟨hlen, F, G', _, _, _, Ra, hf, fun r ρa hr F' H' v sf R2 k2 => ?_, fun c d ρa hx F' H' v dx sf R2 hd dd hf hg => ?_⟩
  · obtain ⟨R3, k3, k4⟩ := R.callOut h sg Ra.gh hG sf R2
    cases r with
    | sl i => exact hr.elim
    | v d => exact q _ _ hr F' H' v sf R3 k2
    | o s => exact q _ _ hr F' H' v sf R3 (k3 s v k2)
    | t s => exact q _ _ hr F' H' v sf R3 (k4 s v k2)
    | gr _ _ => exact hr.elim
  · obtain ⟨R3, _⟩ := R.callOut h sg Ra.gh hG sf R2
    exact x _ _ _ hx F' H' v dx sf R3 hd dd hf (sg.free hg)
abbrev FnD (P : Program) (w : World) (K : PySem.W.Frag) (mg : Str → Option Value) (base : Heap) (k : Nat) (f : Addr) (fd : FuncData) (ps : List Str) (fs : FS) : Prop := FnOk P w K mg base (L2.CX P w) k f fd ps (spF K ps.length fs)
theorem ts_call {fs : FS} {n : Nat} {Q : VK} (h : tS K fx W (mCall n fs ma) σ H Q) : tCallSD (spF K n fs) [] (WE W) (tSA K fx W ma) σ H Q := by
  obtain ⟨F, G, ρ, Q0, X0, R, h, q, x⟩ := h
  refine ⟨F, G, ρ, _, X0, R, h, fun as ρ1 h1 F1 H1 vs s1 R1 k1 => ?_, x⟩
  show spF K n fs (vs ++ []) H1 Q (WE W σ)
  rw [List.append_nil]
  exact sp_call R1 k1 (by rw [← aa_len k1]; exact h1.1) h1.2.1 h1.2.2 (fun r ρ' z F' H' v s2 => q r ρ' z F' H' v (s1.trans s2)) fun c d ρ' z F' H' v dx s2 R2 hd dd => x c d ρ' z F' H' v dx (s1.trans s2) R2 hd dd
theorem passes0 : Passes (L2.CX X.prog X.w) X (fun _ _ _ => False) := fun pins σ H s e s' I h => by
  obtain ⟨_, _, _, _, _, _, _, _, _, _, _, _, z⟩ := h
  exact z.elim
section
variable {k : Nat} {f C p g : Addr} {fd : FuncData} {ps : List Str} {fs : FS} {x mt : Str} {apos : Pos} {o : Expr} {mo : M}
theorem es_call (F : FnD X.prog X.w X.K X.mg X.base k f fd ps fs) (hr : Room k X.A) (hm : X.mg x = some (.ref f)) (hk : PySem.W.keepIn X.K (.ref f) = true) (hb : Binds X.K fd ps []) (tk : Takes X W) (ha : EA X fx W (e :: es) ma) {q : Pos}
    (hg : Gl X x := by rfl) (hdb : (x == ("__debug__" : Str)) = false := by decide) (he : starEach (e :: es) X.env = (false, eval e X.env) :: starEach es X.env := by rfl) (hpl : (backTo pos (starEach es X.env)).any (·.1) = false := by rfl) :
    ES X fx W (.Call (.Name x q) (e :: es) [] pos) (mCall ps.length fs ma) :=
  pe_imp (pe_callSD F hr hg hm hk hb .nil (fun σ => passAt tk σ) ha hdb he hpl) fun _ _ _ h => ts_call h
/-- o.m(..) -/
def mMeth (n : Nat) (fs : FS) (mo : M) (ma : MA) : M := fun ρ Q X => mo ρ (fun r ρ0 => onC (r.cap ρ0) fun x ρ1 => ma ρ1 (fun as ρ2 => as.length + 1 = n ∧ (lentOf as).Nodup ∧
  fs (.fz x :: as.map (AA.sv ρ2)) (fun r ρa => okRes r fun r => Q r (giveBack (.d x :: as) ρa ρ2)) (fun c d ρa => X c d (giveBack (.d x :: as) ρa ρ2))) X) X
def mSelf (C : Addr) (mt : Str) (mo : M) : M := fun ρ Q X => mo ρ (fun r ρ0 => onC (r.cap ρ0) fun x ρ1 => (match x with
  | .ins c fs => c = C ∧ fs.lookup mt = none
  | _ => False) ∧ Q (.v x) ρ1) X
def tMethS (C : Addr) (mt : Str) (sp : Sp) (E : L2.St → XK) (ta : TE) (t : TA) : TE := fun σ H Q => ta σ H fun x H1 => ∃ a dx fs, x = .ref a ∧ H1 a = some (.ins C dx fs) ∧ fs.lookup mt = none ∧ t σ H1 fun vs H2 => sp (x :: vs) H2 Q (E σ)
theorem pe_methSE {sp : Sp} {pl : Sem Bool} {ta : TE} {t : TA} {E : L2.St → XK} {CX : CXT} (he : PE X o ta) (c : Cls X.K C) (hm : Meth X.K C mt f) (F : FnOk X.prog X.w X.K X.mg X.base CX k f fd ps sp) (hr : Room k X.A) (hb : Binds X.K fd ps []) (hx : ∀ σ, PassesAt CX X σ (E σ)) (ha : PA X (e :: es) t)
    (hst : starEach (e :: es) X.env = (false, eval e X.env) :: starEach es X.env := by rfl) (hpl : (backTo pos (starEach es X.env)).any (·.1) = false := by rfl)
    (ht : eval (.Call (.Attribute o mt apos) (e :: es) [] pos) X.env = (do
      let ov ← eval o X.env
      standAt apos.atName
      let (f, first) ← holding [ov] (getMethod ov mt pl)
      callWith pos f first (backTo pos (starEach (e :: es) X.env)) (backToKw pos (keywordEach [] X.env))) := by rfl) :
    PE X (.Call (.Attribute o mt apos) (e :: es) [] pos) (tMethS C mt sp E ta t) := by
  constructor
  intro pins s σ H Q I h
  refine PySem.W.methodCall_KW (pl := pl) (thn (he.run pins s σ H _ I h) fun u s1 hh => ?_) ht
  obtain ⟨x, H1, I1, rx, a, dx, fs, ex, ea, l, q⟩ := hh
  subst ex
  have rx' : u = Value.ref a := rx
  subst rx'
  refine getmeth_ok I1 ea c hm l ?_
  refine PySem.W.callWith_K (first := [.ref a]) (h₀ := X.base) I.ok.mod.kin hm.kp (thn (ha.run pos pins s1 σ H1 _ I1 q) fun us s2 hq => ?_) hst hpl
  obtain ⟨vs, H2, I2, r, q2⟩ := hq
  refine ⟨I2.kIn, ?_⟩
  have r2 : Vals (V.ref a :: vs ++ []) (Value.ref a :: us ++ []) := by rw [List.append_nil, List.append_nil]; exact .cons rfl r
  exact run_fnSD (us := .ref a :: us) (vs := .ref a :: vs) (dvs := []) (ds := []) F hr hb .nil (hx σ) I2 (.cons rfl r) (by rw [List.append_nil]; exact q2)
theorem pe_methSE0 {sp : Sp} {pl : Sem Bool} {ta : TE} {E : L2.St → XK} {CX : CXT} (he : PE X o ta) (c : Cls X.K C) (hm : Meth X.K C mt f) (F : FnOk X.prog X.w X.K X.mg X.base CX k f fd ps sp) (hr : Room k X.A) (hb : Binds X.K fd ps []) (hx : ∀ σ, PassesAt CX X σ (E σ))
    (ht : eval (.Call (.Attribute o mt apos) [] [] pos) X.env = (do
      let ov ← eval o X.env
      standAt apos.atName
      let (f, first) ← holding [ov] (getMethod ov mt pl)
      callWith pos f first (backTo pos (starEach [] X.env)) (backToKw pos (keywordEach [] X.env))) := by rfl) :
    PE X (.Call (.Attribute o mt apos) [] [] pos) (tMethS C mt sp E ta tNil) := by
  constructor
  intro pins s σ H Q I h
  refine PySem.W.methodCall_KW (pl := pl) (thn (he.run pins s σ H _ I h) fun u s1 hh => ?_) ht
  obtain ⟨x, H1, I1, rx, a, dx, fs, ex, ea, l, q⟩ := hh
  subst ex
  have rx' : u = Value.ref a := rx
  subst rx'
  refine getmeth_ok I1 ea c hm l ?_
  exact PySem.W.callWith_K0 (first := [.ref a]) I1.kIn hm.kp (run_fnSD (us := [.ref a]) (vs := [.ref a]) (dvs := []) (ds := []) F hr hb .nil (hx σ) I1 (.cons rfl .nil) q)
theorem meth_in {x : D} (h : (match x with | .ins c fs => c = C ∧ fs.lookup mt = none | _ => False)) (k : Dat K F v x) (sf : SF F H) : ∃ a dx vs, v = .ref a ∧ H a = some (.ins C dx vs) ∧ vs.lookup mt = none := by
  cases k with
  | ins h1 h2 =>
    obtain ⟨rfl, h⟩ := h
    exact ⟨_, _, _, rfl, sf.ins h1, h2.none h⟩
  | _ => exact h.elim
theorem ts_meth {n : Nat} {Q : VK} (h : tS K fx W (mMeth n fs (mSelf C mt mo) ma) σ H Q) : tMethS C mt (spF K n fs) (WE W) (tS K fx W mo) (tSA K fx W ma) σ H Q := by
  obtain ⟨F, G, ρ, Q0, X0, R, h, q, x⟩ := h
  refine ⟨F, G, ρ, _, X0, R, h, fun r ρ0 h0 F1 H1 v1 s1 R1 k1 => ?_, x⟩
  obtain ⟨y, ρ1, e1, h1, h2⟩ := onC_some h0
  obtain ⟨F2, s2, R2, k2⟩ := k1.cap R1 e1
  obtain ⟨a, dx, vs, rfl, ha, hl⟩ := meth_in h1 k2 R2.fh
  refine ⟨a, dx, vs, rfl, ha, hl, F2, G, ρ1, _, X0, R2, h2, fun as ρ2 h3 F3 H3 us s3 R3 k3 => ?_, x.mono (s1.trans s2)⟩
  have sm := (s1.trans s2).trans s3
  exact sp_call (as := .d y :: as) R3 ⟨k2.mono s3, k3⟩ (by rw [List.length_cons, ← aa_len k3]; exact h3.1) h3.2.1 h3.2.2 (fun r ρ' z F' H' v s2 => q r ρ' z F' H' v (sm.trans s2)) fun c d ρ' z F' H' v dx s2 R2 hd dd => x c d ρ' z F' H' v dx (sm.trans s2) R2 hd dd
theorem es_meth {pl : Sem Bool} (hc : Cls X.K C) (hm : Meth X.K C mt f) (F : FnD X.prog X.w X.K X.mg X.base k f fd ps fs) (hr : Room k X.A) (hb : Binds X.K fd ps []) (tk : Takes X W) (ho : ES X fx W o mo) (ha : EA X fx W (e :: es) ma)
    (hst : starEach (e :: es) X.env = (false, eval e X.env) :: starEach es X.env := by rfl) (hpl : (backTo pos (starEach es X.env)).any (·.1) = false := by rfl)
    (ht : eval (.Call (.Attribute o mt apos) (e :: es) [] pos) X.env = (do
      let ov ← eval o X.env
      standAt apos.atName
      let (f, first) ← holding [ov] (getMethod ov mt pl)
      callWith pos f first (backTo pos (starEach (e :: es) X.env)) (backToKw pos (keywordEach [] X.env))) := by rfl) :
    ES X fx W (.Call (.Attribute o mt apos) (e :: es) [] pos) (mMeth ps.length fs (mSelf C mt mo) ma) := by
  exact pe_imp (pe_methSE ho hc hm F hr hb (fun σ => passAt tk σ) ha hst hpl ht) fun _ _ _ h => ts_meth h
theorem es_meth0 {pl : Sem Bool} (hc : Cls X.K C) (hm : Meth X.K C mt f) (F : FnD X.prog X.w X.K X.mg X.base k f fd ps fs) (hr : Room k X.A) (hb : Binds X.K fd ps []) (tk : Takes X W) (ho : ES X fx W o mo)
    (ht : eval (.Call (.Attribute o mt apos) [] [] pos) X.env = (do
      let ov ← eval o X.env
      standAt apos.atName
      let (f, first) ← holding [ov] (getMethod ov mt pl)
      callWith pos f first (backTo pos (starEach [] X.env)) (backToKw pos (keywordEach [] X.env))) := by rfl) :
    ES X fx W (.Call (.Attribute o mt apos) [] [] pos) (mMeth ps.length fs (mSelf C mt mo) aNil) := by
  refine pe_imp (pe_methSE0 ho hc hm F hr hb (fun σ => passAt tk σ) ht) fun σ H Q ⟨F, G, ρ, Q0, X0, R, h, q, x⟩ => ⟨F, G, ρ, _, X0, R, h, fun r ρ0 h0 F1 H1 v1 s1 R1 k1 => ?_, x⟩
  obtain ⟨y, ρ1, e1, h1, h2⟩ := onC_some h0
  obtain ⟨F2, s2, R2, k2⟩ := k1.cap R1 e1
  obtain ⟨a, dx, vs, rfl, ha, hl⟩ := meth_in h1 k2 R2.fh
  refine ⟨a, dx, vs, rfl, ha, hl, ?_⟩
  have sm := s1.trans s2
  have h2' := id h2
  exact sp_call (as := [.d y]) (vs := [.ref a]) R2 ⟨k2, trivial⟩ h2'.1 h2'.2.1 h2'.2.2 (fun r ρ' z F' H' v s2 => q r ρ' z F' H' v (sm.trans s2)) fun c d ρ' z F' H' v dx s2 R2 hd dd => x c d ρ' z F' H' v dx (sm.trans s2) R2 hd dd
/-- o.f, a property -/
def mProp (fs : FS) (mo : M) : M := fun ρ Q X => mo ρ (fun r ρ0 => onC (r.cap ρ0) fun x ρ1 => fs [.fz x] (fun r ρa => okRes r fun r => Q r (giveBack [.d x] ρa ρ1)) (fun _ _ _ => False)) X
def mIns (C : Addr) (mo : M) : M := fun ρ Q X => mo ρ (fun r ρ0 => onC (r.cap ρ0) fun x ρ1 => (match x with
  | .ins c _ => c = C
  | _ => False) ∧ Q (.v x) ρ1) X
theorem es_prop (hc : Cls X.K C) (hp : PropOf X.K C mt p g) (F : FnD X.prog X.w X.K X.mg X.base k g fd ["self"] fs) (hr : Room (k + 1) X.A) (hb : Binds X.K fd ["self"] []) (ho : ES X fx W o mo)
    (hab : attributeBase o mt X.env (eval o X.env) = eval o X.env := by rfl) : ES X fx W (.Attribute o mt pos) (mProp fs (mIns C mo)) := by
  refine pe_imp (pe_prop ho hc hp F hr hb .nil (X := X) (E := fun _ _ _ => False) (passes0 (X := X.nox)) hab) fun σ H Q ⟨F, G, ρ, Q0, X0, R, h, q, x⟩ => ⟨F, G, ρ, _, X0, R, h, fun r ρ0 h0 F1 H1 v1 s1 R1 k1 => ?_, x⟩
  obtain ⟨y, ρ1, e1, h1, h2⟩ := onC_some h0
  obtain ⟨F2, s2, R2, k2⟩ := k1.cap R1 e1
  have ins : ∃ a dx vs, v1 = .ref a ∧ H1 a = some (.ins C dx vs) := by
    cases k2 with
    | ins y1 y2 =>
      have h1' : _ = C := h1
      subst h1'
      exact ⟨_, _, _, rfl, R2.fh.ins y1⟩
    | _ => exact h1.elim
  obtain ⟨a, dx, vs, rfl, ha⟩ := ins
  refine ⟨a, dx, vs, rfl, ha, ?_⟩
  have sm := s1.trans s2
  exact sp_call (as := [.d y]) (vs := [.ref a]) (X0 := fun _ _ _ => False) R2 ⟨k2, trivial⟩ rfl (by unfold lentOf; unfold lentOf; exact List.nodup_nil) h2 (fun r ρ' z F' H' v s2 => q r ρ' z F' H' v (sm.trans s2)) fun c d ρ' z => z.elim
end
end
end BB

namespace BB
open PySem PySem.Spec PyProof.Rows L2
section
variable {X : Cx} {K : PySem.W.Frag} {F F' G G' H H' : Hp} {fx : List (Nat × Addr)} {W : WX} {ρ ρ' ρ1 ρ2 : DE} {σ σ' : L2.St} {pos pos' : Pos} {e a b c o : Expr} {es : List Expr} {m ma mb mc mo : M} {v : V} {d : D}

/-! ### dicts by int and text keys -/
def valD {α : Type} (kvs : List (Key × α)) (k : Key) : Option α := (kvs.find? fun kv => decide (kv.1 = k)).map (·.2)
def putD {α : Type} (kvs : List (Key × α)) (k : Key) (v : α) : List (Key × α) :=
  if (kvs.any fun kv => decide (kv.1 = k)) = true then kvs.map (fun kv => if kv.1 = k then (kv.1, v) else kv) else kvs ++ [(k, v)]
theorem valD_V (vs : List (Key × V)) (k : Key) : valD vs k = valV vs k := rfl
theorem putD_V (vs : List (Key × V)) (k : Key) (v : V) : putD vs k v = putK vs k v := rfl
section
variable {α : Type}
theorem valD_pos {p : Key × α} {r : List (Key × α)} {k : Key} (e : p.1 = k) : valD (p :: r) k = some p.2 := by simp [valD, List.find?_cons, e]
theorem valD_neg {p : Key × α} {r : List (Key × α)} {k : Key} (e : ¬ p.1 = k) : valD (p :: r) k = valD r k := by simp [valD, List.find?_cons, e]
end
def D.key : D → Option Key
  | .int i => some (.inl i)
  | .str x => some (.inr x)
  | _ => none
theorem DatK.val : ∀ {vs : List (Key × V)} {ds : List (Key × D)} {k : Key} {d : D}, DatK K F vs ds → valD ds k = some d → ∃ v, valD vs k = some v ∧ Dat K F v d
  | _, _, _, _, .nil, e => by cases e
  | _, _, k, d, .cons (f := f) h t, e => by
    by_cases q : f = k
    · rw [valD_pos (p := (f, _)) q] at e
      cases e
      exact ⟨_, valD_pos (p := (f, _)) q, h⟩
    · rw [valD_neg (p := (f, _)) q] at e
      obtain ⟨v, h1, h2⟩ := DatK.val t e
      exact ⟨v, by rw [valD_neg (p := (f, _)) q]; exact h1, h2⟩
theorem DatK.noval : ∀ {vs : List (Key × V)} {ds : List (Key × D)} {k : Key}, DatK K F vs ds → valD ds k = none → valD vs k = none
  | _, _, _, .nil, _ => rfl
  | _, _, k, .cons (f := f) h t, e => by
    by_cases q : f = k
    · rw [valD_pos (p := (f, _)) q] at e
      cases e
    · rw [valD_neg (p := (f, _)) q] at e
      rw [valD_neg (p := (f, _)) q]
      exact DatK.noval t e
theorem DatK.length : ∀ {vs : List (Key × V)} {ds : List (Key × D)}, DatK K F vs ds → vs.length = ds.length
  | _, _, .nil => rfl
  | _, _, .cons _ t => by rw [List.length_cons, List.length_cons, t.length]
theorem DatK.any : ∀ {vs : List (Key × V)} {ds : List (Key × D)} (k : Key), DatK K F vs ds → (vs.any fun kv => decide (kv.1 = k)) = ds.any fun kv => decide (kv.1 = k)
  | _, _, _, .nil => rfl
  | _, _, k, .cons _ t => by rw [List.any_cons, List.any_cons, DatK.any k t]
theorem DatK.snoc : ∀ {vs : List (Key × V)} {ds : List (Key × D)} {k : Key}, DatK K F vs ds → Dat K F v d → DatK K F (vs ++ [(k, v)]) (ds ++ [(k, d)])
  | _, _, _, .nil, h => .cons h .nil
  | _, _, _, .cons q t, h => .cons q (DatK.snoc t h)
theorem DatK.repl : ∀ {vs : List (Key × V)} {ds : List (Key × D)} {k : Key}, DatK K F vs ds → Dat K F v d → DatK K F (vs.map fun kv => if kv.1 = k then (kv.1, v) else kv) (ds.map fun kv => if kv.1 = k then (kv.1, d) else kv)
  | _, _, _, .nil, h => .nil
  | _, _, k, .cons (f := f) q t, h => by
    rw [List.map_cons, List.map_cons]
    by_cases e : f = k
    · rw [if_pos (show ((f, _) : Key × V).1 = k from e), if_pos (show ((f, _) : Key × D).1 = k from e)]
      exact .cons h (DatK.repl t h)
    · rw [if_neg (show ¬ ((f, _) : Key × V).1 = k from e), if_neg (show ¬ ((f, _) : Key × D).1 = k from e)]
      exact .cons q (DatK.repl t h)
theorem DatK.put {vs : List (Key × V)} {ds : List (Key × D)} {k : Key} (h : DatK K F vs ds) (hd : Dat K F v d) : DatK K F (putK vs k v) (putD ds k d) := by
  rw [← putD_V]
  unfold putD
  rw [h.any k]
  by_cases e : (ds.any fun kv => decide (kv.1 = k)) = true
  · rw [if_pos e, if_pos e]; exact h.repl hd
  · rw [if_neg e, if_neg e]; exact h.snoc hd
theorem Top.key {k : Key} (h : Top K F H v d) (e : d.key = some k) : v = kV k := by
  cases d <;> first | (cases e; done) | skip
  · cases e; exact h.int_inv
  · cases e; exact h.str_inv
def rIxDk : R2 := fun x y H Q => ∃ p z, x = .ref p ∧ (∃ kvs, Rd H p (.dK kvs)) ∧ DGet H p y (some z) ∧ Q z H
theorem ix_dict (hu : X.A.units + 1 < cLine) : IxR X rIxDk := by
  intro value slice pins s σ H x y v u Q I rx ry h hs
  obtain ⟨p, z, rfl, _, g, q⟩ := h
  have rx' : v = Value.ref p := rx
  subst rx'
  exact tail_any (ops := [.ref p, u]) (dict_typeIs I g) PySem.F.slot_dict_getitem.lookup (d_getItem hu I g ry fun w' s' I' rw' => ⟨z, H, I', rw', q⟩) hs
/-- a[b]: of a list, a tuple, a text, a dict -/
def fIxA : F2 := fun d e Q => match d with
  | .dic kvs => match e.key with
    | some k => onD (valD kvs k) fun z => Q (.v z)
    | none => False
  | _ => fIx d e Q
theorem snd_ixA : Snd2 K (rOr (rIxA K) rIxDk) fIxA where
  ok := by
    intro F G H fx ρ σ x y d e Q0 Q R h1 h2 hf q
    unfold fIxA at hf
    split at hf
    · split at hf
      · rename_i k hk
        obtain ⟨z, ez, hf⟩ := onD_some hf
        obtain ⟨a, vs, rfl, ha, da⟩ := h1.dic_inv R
        obtain ⟨w, hw, dw⟩ := da.val ez
        have hy := h2.key hk
        subst hy
        exact .inr ⟨a, w, rfl, ⟨vs, ha⟩, by rw [← hw, valD_V]; exact .inl ⟨vs, k, ha, rfl, rfl⟩, q _ hf F H _ (Same.refl F) R dw⟩
      · exact hf.elim
    · exact .inl (snd_ix.ok R h1 h2 hf q)
theorem es_ixA (hu : X.A.units + 1 < cLine) (ha : ES X fx W a ma) (hb : ES X fx W b mb) (hs : PlainIx b := by exact fun _ _ => rfl) : ES X fx W (.Subscript a b pos) (mOp2 fIxA ma mb) := pe_imp (pe_ix (IxR.or ix_any (ix_dict hu)) ha hb hs) fun _ _ _ h => ts_op2 snd_ixA h
end
end BB

namespace BB
open PySem PySem.Spec PyProof.Rows L2
section
variable {X : Cx} {K : PySem.W.Frag} {F F' G G' H H' : Hp} {fx : List (Nat × Addr)} {W : WX} {ρ ρ' ρ1 ρ2 : DE} {σ σ' : L2.St} {pos pos' : Pos} {e a b c o : Expr} {es : List Expr} {m ma mb mc mo : M} {v : V} {d : D}

/-! ### built-in functions -/
section
variable {id T : String} {r : List V → Hp → VK → Prop} {f : F1} {f2 : F2} {x : Str} {p : Pos}
theorem es_fn1 (hc : CallR X (.builtin id) r) (S : Snd1 X.K (fun x => r [x]) f) (hm : X.mg x = none) (hv : bootBuiltins x = some (.builtin id)) (ha : ES X fx W e ma)
    (hg : Gl X x := by rfl) (hn : x ≠ "__name__" := by decide) (hdb : (x == ("__debug__" : Str)) = false := by decide) (he : starEach [e] X.env = (false, eval e X.env) :: starEach [] X.env := by rfl) :
    ES X fx W (.Call (.Name x p) [e] [] pos) (mOp1 f ma) :=
  pe_imp (pe_callB hc hg hm hv (pa_cons ha pa_nil he) hn hdb he rfl) fun _ _ _ h => ts_op1 S h
theorem es_ty1 (hc : CallR X (.type T) r) (S : Snd1 X.K (fun x => r [x]) f) (hm : X.mg x = none) (hv : bootBuiltins x = some (.type T)) (ha : ES X fx W e ma)
    (hg : Gl X x := by rfl) (hn : x ≠ "__name__" := by decide) (hdb : (x == ("__debug__" : Str)) = false := by decide) (he : starEach [e] X.env = (false, eval e X.env) :: starEach [] X.env := by rfl) :
    ES X fx W (.Call (.Name x p) [e] [] pos) (mOp1 f ma) :=
  pe_imp (pe_callTy hc hg hm hv (pa_cons ha pa_nil he) hn hdb he rfl) fun _ _ _ h => ts_op1 S h
theorem es_fn2 (hc : CallR X (.builtin id) r) (S : Snd2 X.K (fun x y => r [x, y]) f2) (hm : X.mg x = none) (hv : bootBuiltins x = some (.builtin id)) (ha : ES X fx W a ma) (hb : ES X fx W b mb)
    (hg : Gl X x := by rfl) (hn : x ≠ "__name__" := by decide) (hdb : (x == ("__debug__" : Str)) = false := by decide) (he : starEach [a, b] X.env = (false, eval a X.env) :: starEach [b] X.env := by rfl)
    (he' : starEach [b] X.env = (false, eval b X.env) :: starEach [] X.env := by rfl) (hpl : (backTo pos (starEach [b] X.env)).any (·.1) = false := by rfl) :
    ES X fx W (.Call (.Name x p) [a, b] [] pos) (mOp2 f2 ma mb) :=
  pe_imp (pe_callB hc hg hm hv (pa_cons ha (pa_cons hb pa_nil he') he) hn hdb he hpl) fun _ _ _ h => ts_op2 S h
end
/-- a list's ints, bools -/
def intsOf : List D → Option (List Int)
  | [] => some []
  | .int i :: r => match intsOf r with
    | some ns => some (i :: ns)
    | none => none
  | _ :: _ => none
def blsOf : List D → Option (List Bool)
  | [] => some []
  | .bl i :: r => match blsOf r with
    | some ns => some (i :: ns)
    | none => none
  | _ :: _ => none
theorem intsOf_map : ∀ ns : List Int, intsOf (ns.map D.int) = some ns
  | [] => rfl
  | n :: ns => by rw [List.map_cons]; unfold intsOf; rw [intsOf_map ns]
theorem blsOf_map : ∀ ns : List Bool, blsOf (ns.map D.bl) = some ns
  | [] => rfl
  | n :: ns => by rw [List.map_cons]; unfold blsOf; rw [blsOf_map ns]
theorem intsOf_some : ∀ {xs : List D} {ns : List Int}, intsOf xs = some ns → xs = ns.map D.int
  | [], ns, h => by cases h; rfl
  | .int i :: r, ns, h => by
    unfold intsOf at h
    split at h
    · rename_i ms hm
      cases h
      rw [List.map_cons, ← intsOf_some hm]
    · cases h
  | .non :: _, _, h => by cases h
  | .bl _ :: _, _, h => by cases h
  | .str _ :: _, _, h => by cases h
  | .lst _ :: _, _, h => by cases h
  | .tup _ :: _, _, h => by cases h
  | .ins _ _ :: _, _, h => by cases h
  | .scr _ :: _, _, h => by cases h
  | .dic _ :: _, _, h => by cases h
theorem blsOf_some : ∀ {xs : List D} {ns : List Bool}, blsOf xs = some ns → xs = ns.map D.bl
  | [], ns, h => by cases h; rfl
  | .bl i :: r, ns, h => by
    unfold blsOf at h
    split at h
    · rename_i ms hm
      cases h
      rw [List.map_cons, ← blsOf_some hm]
    · cases h
  | .non :: _, _, h => by cases h
  | .int _ :: _, _, h => by cases h
  | .str _ :: _, _, h => by cases h
  | .lst _ :: _, _, h => by cases h
  | .tup _ :: _, _, h => by cases h
  | .ins _ _ :: _, _, h => by cases h
  | .scr _ :: _, _, h => by cases h
  | .dic _ :: _, _, h => by cases h
theorem DatL.ints : ∀ {ns : List Int} {vs : List V}, DatL K F vs (ns.map D.int) → vs = ns.map V.int
  | [], _, h => by cases h; rfl
  | n :: ns, _, h => by
    cases h with
    | cons h t => cases h; rw [List.map_cons, ← t.ints]
theorem DatL.bls : ∀ {ns : List Bool} {vs : List V}, DatL K F vs (ns.map D.bl) → vs = ns.map V.bl
  | [], _, h => by cases h; rfl
  | n :: ns, _, h => by
    cases h with
    | cons h t => cases h; rw [List.map_cons, ← t.bls]
theorem DatL.of_ints : ∀ (ns : List Int), DatL K F (ns.map V.int) (ns.map D.int)
  | [] => .nil
  | n :: ns => .cons (.int n) (DatL.of_ints ns)

theorem call_lenR : CallR X (.builtin "len") (fun xs H Q => ∃ a kvs, xs = [V.ref a] ∧ Rd H a (.dK kvs) ∧ Q (.int kvs.length) H) := by
  intro pins s σ H xs us Q I r h
  obtain ⟨a, kvs, hx, ha, q⟩ := h
  subst hx
  obtain ⟨u, hu, ru⟩ := vals1 r
  subst hu
  cases ru
  exact d_len I ha fun t s' J => ⟨.int kvs.length, H, J, ⟨t, rfl⟩, q⟩
def fLen : F1 := fun d Q => match d with
  | .lst xs => Q (.v (.int xs.length))
  | .tup xs => Q (.v (.int xs.length))
  | .str x => x.length ≤ sizeLine ∧ Q (.v (.int x.length))
  | .dic kvs => Q (.v (.int kvs.length))
  | .scr xs => Q (.v (.int xs.length))
  | _ => False
theorem snd_len : Snd1 K (fun x H Q => (∃ y n, [x] = [y] ∧ LenV K y H n ∧ Q (.int n) H) ∨ ∃ a kvs, [x] = [V.ref a] ∧ Rd H a (.dK kvs) ∧ Q (.int kvs.length) H) fLen where
  ok := by
    intro F G H fx ρ σ x d Q0 Q R h1 hf q
    unfold fLen at hf
    split at hf
    · obtain ⟨a, vs, rfl, ha, da⟩ := h1.lst_inv R
      refine .inl ⟨_, vs.length, rfl, .inl ⟨vs, SqL.of ha, rfl⟩, ?_⟩
      rw [da.length]
      exact q _ hf F H _ (Same.refl F) R (.int _)
    · obtain ⟨a, vs, rfl, ha, da⟩ := h1.tup_inv R
      refine .inl ⟨_, vs.length, rfl, .inr ⟨vs, ha, rfl⟩, ?_⟩
      rw [da.length]
      exact q _ hf F H _ (Same.refl F) R (.int _)
    · rw [h1.str_inv]
      exact .inl ⟨_, _, rfl, ⟨hf.1, rfl⟩, q _ hf.2 F H _ (Same.refl F) R (.int _)⟩
    · obtain ⟨a, vs, rfl, ha, da⟩ := h1.dic_inv R
      refine .inr ⟨_, vs, rfl, ha, ?_⟩
      rw [da.length]
      exact q _ hf F H _ (Same.refl F) R (.int _)
    · obtain ⟨a, vs, rfl, ha, da⟩ := h1.scr_inv R
      refine .inl ⟨_, vs.length, rfl, .inl ⟨vs, ha, rfl⟩, ?_⟩
      rw [da.length]
      exact q _ hf F H _ (Same.refl F) R (.int _)
    · exact hf.elim
theorem es_len {p : Pos} (hm : X.mg "len" = none) (ha : ES X fx W e ma) (hg : Gl X "len" := by rfl) (he : starEach [e] X.env = (false, eval e X.env) :: starEach [] X.env := by rfl) : ES X fx W (.Call (.Name "len" p) [e] [] pos) (mOp1 fLen ma) :=
  es_fn1 (CallR.or call_len call_lenR) snd_len hm boot_len ha hg (by decide) (by decide) he
def fAbs : F1 := fun d Q => match d with
  | .int i => Q (.v (.int (if i < 0 then -i else i)))
  | _ => False
theorem snd_abs : Snd1 K (fun x H Q => ∃ i, [x] = [V.int i] ∧ Q (V.int (if i < 0 then -i else i)) H) fAbs where
  ok := by
    intro F G H fx ρ σ x d Q0 Q R h1 hf q
    unfold fAbs at hf
    split at hf
    · rw [h1.int_inv]
      exact ⟨_, rfl, q _ hf F H _ (Same.refl F) R (.int _)⟩
    · exact hf.elim
theorem es_abs {p : Pos} (hm : X.mg "abs" = none) (ha : ES X fx W e ma) (hg : Gl X "abs" := by rfl) (he : starEach [e] X.env = (false, eval e X.env) :: starEach [] X.env := by rfl) : ES X fx W (.Call (.Name "abs" p) [e] [] pos) (mOp1 fAbs ma) :=
  es_fn1 call_abs snd_abs hm (by decide +kernel) ha hg (by decide) (by decide) he
def fInt : F1 := fun d Q => match d with
  | .int i => Q (.v (.int i))
  | .bl k => Q (.v (.int (if k then 1 else 0)))
  | _ => False
theorem snd_int : Snd1 K (fun x H Q => (∃ i, [x] = [V.int i] ∧ Q (V.int i) H) ∨ ∃ k, [x] = [V.bl k] ∧ Q (V.int (if k then 1 else 0)) H) fInt where
  ok := by
    intro F G H fx ρ σ x d Q0 Q R h1 hf q
    unfold fInt at hf
    split at hf
    · rw [h1.int_inv]
      exact .inl ⟨_, rfl, q _ hf F H _ (Same.refl F) R (.int _)⟩
    · rw [h1.bl_inv]
      exact .inr ⟨_, rfl, q _ hf F H _ (Same.refl F) R (.int _)⟩
    · exact hf.elim
theorem es_intF {p : Pos} (hm : X.mg "int" = none) (ha : ES X fx W e ma) (hg : Gl X "int" := by rfl) (he : starEach [e] X.env = (false, eval e X.env) :: starEach [] X.env := by rfl) : ES X fx W (.Call (.Name "int" p) [e] [] pos) (mOp1 fInt ma) :=
  es_ty1 call_int1 snd_int hm (by decide +kernel) ha hg (by decide) (by decide) he
def fStr : F1 := fun d Q => match d with
  | .int i => i.natAbs.log2 < 1920 ∧ Q (.v (.str (toString i)))
  | .str x => Q (.v (.str x))
  | _ => False
def fSum : F1 := fun d Q => match d with
  | .lst xs => match intsOf xs with
    | some ns => Q (.v (.int ns.sum))
    | none => False
  | _ => False
theorem snd_sum : Snd1 K (fun x => rSum K [x]) fSum where
  ok := by
    intro F G H fx ρ σ x d Q0 Q R h1 hf q
    unfold fSum at hf
    split at hf
    · split at hf
      · rename_i ns hn
        rw [intsOf_some hn] at h1
        obtain ⟨a, vs, rfl, ha, da⟩ := h1.lst_inv R
        rw [da.ints] at ha
        exact ⟨a, ns, rfl, SqL.of ha, q _ hf F H _ (Same.refl F) R (.int _)⟩
      · exact hf.elim
    · exact hf.elim
theorem es_sum {p : Pos} (hc : X.calm = true) (hm : X.mg "sum" = none) (ha : ES X fx W e ma) (hg : Gl X "sum" := by rfl) (he : starEach [e] X.env = (false, eval e X.env) :: starEach [] X.env := by rfl) : ES X fx W (.Call (.Name "sum" p) [e] [] pos) (mOp1 fSum ma) :=
  es_fn1 (cr_sum hc) snd_sum hm (by decide +kernel) ha hg (by decide) (by decide) he
def fAny : F1 := fun d Q => match d with
  | .lst xs => match blsOf xs with
    | some bs => Q (.v (.bl (bs.any id)))
    | none => False
  | _ => False
def fAll : F1 := fun d Q => match d with
  | .lst xs => match blsOf xs with
    | some bs => Q (.v (.bl (bs.all id)))
    | none => False
  | _ => False
theorem snd_any : Snd1 K (fun x => rAny K [x]) fAny where
  ok := by
    intro F G H fx ρ σ x d Q0 Q R h1 hf q
    unfold fAny at hf
    split at hf
    · split at hf
      · rename_i ns hn
        rw [blsOf_some hn] at h1
        obtain ⟨a, vs, rfl, ha, da⟩ := h1.lst_inv R
        rw [da.bls] at ha
        exact ⟨a, ns, rfl, SqL.of ha, q _ hf F H _ (Same.refl F) R (.bl _)⟩
      · exact hf.elim
    · exact hf.elim
theorem snd_all : Snd1 K (fun x => rAll K [x]) fAll where
  ok := by
    intro F G H fx ρ σ x d Q0 Q R h1 hf q
    unfold fAll at hf
    split at hf
    · split at hf
      · rename_i ns hn
        rw [blsOf_some hn] at h1
        obtain ⟨a, vs, rfl, ha, da⟩ := h1.lst_inv R
        rw [da.bls] at ha
        exact ⟨a, ns, rfl, SqL.of ha, q _ hf F H _ (Same.refl F) R (.bl _)⟩
      · exact hf.elim
    · exact hf.elim
theorem es_any {p : Pos} (hc : X.calm = true) (hm : X.mg "any" = none) (ha : ES X fx W e ma) (hg : Gl X "any" := by rfl) (he : starEach [e] X.env = (false, eval e X.env) :: starEach [] X.env := by rfl) : ES X fx W (.Call (.Name "any" p) [e] [] pos) (mOp1 fAny ma) :=
  es_fn1 (cr_any hc) snd_any hm (by decide +kernel) ha hg (by decide) (by decide) he
theorem es_all {p : Pos} (hc : X.calm = true) (hm : X.mg "all" = none) (ha : ES X fx W e ma) (hg : Gl X "all" := by rfl) (he : starEach [e] X.env = (false, eval e X.env) :: starEach [] X.env := by rfl) : ES X fx W (.Call (.Name "all" p) [e] [] pos) (mOp1 fAll ma) :=
  es_fn1 (cr_all hc) snd_all hm (by decide +kernel) ha hg (by decide) (by decide) he
def fList : F1 := fun d Q => match d with
  | .lst xs => Q (.o (.ow xs))
  | .tup xs => Q (.o (.ow xs))
  | _ => False
theorem snd_list : Snd1 K (fun x H Q => ∃ p ys, [x] = [V.ref p] ∧ (SqL K H p ys ∨ SqT K H p ys) ∧ ∀ l, H l = none → Q (.ref l) (upd H l (.lst ys))) fList where
  ok := by
    intro F G H fx ρ σ x d Q0 Q R h1 hf q
    unfold fList at hf
    split at hf
    · obtain ⟨a, vs, rfl, ha, da⟩ := h1.lst_inv R
      refine ⟨a, vs, rfl, .inl (SqL.of ha), fun p hp => ?_⟩
      obtain ⟨R1, k1⟩ := out_lst R hp da
      exact q _ hf F _ _ (Same.refl F) R1 k1
    · obtain ⟨a, vs, rfl, ha, da⟩ := h1.tup_inv R
      refine ⟨a, vs, rfl, .inr ha, fun p hp => ?_⟩
      obtain ⟨R1, k1⟩ := out_lst R hp da
      exact q _ hf F _ _ (Same.refl F) R1 k1
    · exact hf.elim
theorem es_list {p : Pos} (hm : X.mg "list" = none) (ha : ES X fx W e ma) (hg : Gl X "list" := by rfl) (he : starEach [e] X.env = (false, eval e X.env) :: starEach [] X.env := by rfl) : ES X fx W (.Call (.Name "list" p) [e] [] pos) (mOp1 fList ma) :=
  es_ty1 call_list_of snd_list hm (by decide +kernel) ha hg (by decide) (by decide) he
def fTuple : F1 := fun d Q => match d with
  | .lst xs => Q (.v (.tup xs))
  | .tup xs => Q (.v (.tup xs))
  | _ => False
theorem snd_tuple : Snd1 K (fun x H Q => ∃ p ys, [x] = [V.ref p] ∧ ((SqL K H p ys ∧ ∀ l, H l = none → Q (.ref l) (upd H l (.tup ys))) ∨ (SqT K H p ys ∧ Q (.ref p) H))) fTuple where
  ok := by
    intro F G H fx ρ σ x d Q0 Q R h1 hf q
    unfold fTuple at hf
    split at hf
    · obtain ⟨a, vs, rfl, ha, da⟩ := h1.lst_inv R
      refine ⟨a, vs, rfl, .inl ⟨SqL.of ha, fun p hp => ?_⟩⟩
      obtain ⟨F1, s1, R1, k1⟩ := out_tup R hp da
      exact q _ hf F1 _ _ s1 R1 k1
    · cases h1 with
      | dat h =>
        cases h with
        | tup h1 h2 => exact ⟨_, _, rfl, .inr ⟨R.fh.sqT h1, q _ hf F H _ (Same.refl F) R (Dat.tup h1 h2)⟩⟩
    · exact hf.elim
theorem es_tuple {p : Pos} (hm : X.mg "tuple" = none) (ha : ES X fx W e ma) (hg : Gl X "tuple" := by rfl) (he : starEach [e] X.env = (false, eval e X.env) :: starEach [] X.env := by rfl) : ES X fx W (.Call (.Name "tuple" p) [e] [] pos) (mOp1 fTuple ma) :=
  es_ty1 call_tuple_of snd_tuple hm (by decide +kernel) ha hg (by decide) (by decide) he
def fSorted : F1 := fun d Q => match d with
  | .lst xs => match intsOf xs with
    | some ns => ∀ ns' : List Int, ns'.Perm ns → ns'.Pairwise (· ≤ ·) → Q (.o (.ow (ns'.map D.int)))
    | none => False
  | _ => False
theorem snd_sorted : Snd1 K (fun x => rSortedI K [x]) fSorted where
  ok := by
    intro F G H fx ρ σ x d Q0 Q R h1 hf q
    unfold fSorted at hf
    split at hf
    · split at hf
      · rename_i ns hn
        rw [intsOf_some hn] at h1
        obtain ⟨a, vs, rfl, ha, da⟩ := h1.lst_inv R
        rw [da.ints] at ha
        refine ⟨a, ns, rfl, SqL.of ha, fun ns' p h2 h3 hp => ?_⟩
        obtain ⟨R1, k1⟩ := out_lst R hp (DatL.of_ints ns')
        exact q _ (hf ns' h2 h3) F _ _ (Same.refl F) R1 k1
      · exact hf.elim
    · exact hf.elim
theorem es_sorted {p : Pos} (hm : X.mg "sorted" = none) (ha : ES X fx W e ma) (hg : Gl X "sorted" := by rfl) (he : starEach [e] X.env = (false, eval e X.env) :: starEach [] X.env := by rfl) : ES X fx W (.Call (.Name "sorted" p) [e] [] pos) (mOp1 fSorted ma) :=
  es_fn1 cr_sortedI snd_sorted hm (by decide +kernel) ha hg (by decide) (by decide) he
def fMax2 : F2 := fI (fun _ _ => True) fun i j => .int (if j > i then j else i)
def fMin2 : F2 := fI (fun _ _ => True) fun i j => .int (if j < i then j else i)
theorem snd_I2 {g : Int → Int → Int} : Snd2 K (fun x y H Q => ∃ i j, [x, y] = [V.int i, V.int j] ∧ Q (V.int (g i j)) H) (fI (fun _ _ => True) fun i j => .int (g i j)) where
  ok := by
    intro F G H fx ρ σ x y d e Q0 Q R h1 h2 hf q
    unfold fI at hf
    split at hf
    · rw [h1.int_inv, h2.int_inv]
      exact ⟨_, _, rfl, q _ hf.2 F H _ (Same.refl F) R (.int _)⟩
    · exact hf.elim
theorem es_max2 {p : Pos} (hc : X.calm = true) (hm : X.mg "max" = none) (ha : ES X fx W a ma) (hb : ES X fx W b mb) (hg : Gl X "max" := by rfl) (he : starEach [a, b] X.env = (false, eval a X.env) :: starEach [b] X.env := by rfl)
    (he' : starEach [b] X.env = (false, eval b X.env) :: starEach [] X.env := by rfl) (hpl : (backTo pos (starEach [b] X.env)).any (·.1) = false := by rfl) : ES X fx W (.Call (.Name "max" p) [a, b] [] pos) (mOp2 fMax2 ma mb) :=
  es_fn2 (call_max2 hc) snd_I2 hm (by decide +kernel) ha hb hg (by decide) (by decide) he he' hpl
theorem es_min2 {p : Pos} (hc : X.calm = true) (hm : X.mg "min" = none) (ha : ES X fx W a ma) (hb : ES X fx W b mb) (hg : Gl X "min" := by rfl) (he : starEach [a, b] X.env = (false, eval a X.env) :: starEach [b] X.env := by rfl)
    (he' : starEach [b] X.env = (false, eval b X.env) :: starEach [] X.env := by rfl) (hpl : (backTo pos (starEach [b] X.env)).any (·.1) = false := by rfl) : ES X fx W (.Call (.Name "min" p) [a, b] [] pos) (mOp2 fMin2 ma mb) :=
  es_fn2 (call_min2 hc) snd_I2 hm (by decide +kernel) ha hb hg (by decide) (by decide) he he' hpl
/-- max, min of a list of ints -/
def fMaxL : F1 := fun d Q => match d with
  | .lst xs => match intsOf xs with
    | some ns => 0 < ns.length ∧ ∀ m, m ∈ ns → (∀ y, y ∈ ns → y ≤ m) → Q (.v (.int m))
    | none => False
  | _ => False
def fMinL : F1 := fun d Q => match d with
  | .lst xs => match intsOf xs with
    | some ns => 0 < ns.length ∧ ∀ m, m ∈ ns → (∀ y, y ∈ ns → m ≤ y) → Q (.v (.int m))
    | none => False
  | _ => False
theorem snd_maxL : Snd1 K (fun x => rMax K [x]) fMaxL where
  ok := by
    intro F G H fx ρ σ x d Q0 Q R h1 hf q
    unfold fMaxL at hf
    split at hf
    · split at hf
      · rename_i ns hn
        rw [intsOf_some hn] at h1
        obtain ⟨a, vs, rfl, ha, da⟩ := h1.lst_inv R
        rw [da.ints] at ha
        exact ⟨a, ns, rfl, SqL.of ha, hf.1, fun m z1 z2 => q _ (hf.2 m z1 z2) F H _ (Same.refl F) R (.int _)⟩
      · exact hf.elim
    · exact hf.elim
theorem snd_minL : Snd1 K (fun x => rMin K [x]) fMinL where
  ok := by
    intro F G H fx ρ σ x d Q0 Q R h1 hf q
    unfold fMinL at hf
    split at hf
    · split at hf
      · rename_i ns hn
        rw [intsOf_some hn] at h1
        obtain ⟨a, vs, rfl, ha, da⟩ := h1.lst_inv R
        rw [da.ints] at ha
        exact ⟨a, ns, rfl, SqL.of ha, hf.1, fun m z1 z2 => q _ (hf.2 m z1 z2) F H _ (Same.refl F) R (.int _)⟩
      · exact hf.elim
    · exact hf.elim
theorem es_maxL {p : Pos} (hc : X.calm = true) (hm : X.mg "max" = none) (ha : ES X fx W e ma) (hg : Gl X "max" := by rfl) (he : starEach [e] X.env = (false, eval e X.env) :: starEach [] X.env := by rfl) : ES X fx W (.Call (.Name "max" p) [e] [] pos) (mOp1 fMaxL ma) :=
  es_fn1 (cr_max hc) snd_maxL hm (by decide +kernel) ha hg (by decide) (by decide) he
theorem es_minL {p : Pos} (hc : X.calm = true) (hm : X.mg "min" = none) (ha : ES X fx W e ma) (hg : Gl X "min" := by rfl) (he : starEach [e] X.env = (false, eval e X.env) :: starEach [] X.env := by rfl) : ES X fx W (.Call (.Name "min" p) [e] [] pos) (mOp1 fMinL ma) :=
  es_fn1 (cr_min hc) snd_minL hm (by decide +kernel) ha hg (by decide) (by decide) he
end
end BB

namespace BB
open PySem PySem.Spec PyProof.Rows L2
section
variable {X : Cx} {K : PySem.W.Frag} {F F' G G' H H' : Hp} {fx : List (Nat × Addr)} {W : WX} {ρ ρ' ρ1 ρ2 : DE} {σ σ' : L2.St} {pos pos' : Pos} {e a b c o : Expr} {es : List Expr} {m ma mb mc mo : M} {ml : ML} {v : V} {d : D}

/-- an owned cell is rewritten -/
theorem Rep.wr {i : Nat} {s s' : SV} {p : Addr} {u : HO} (R : Rep K F G H fx ρ σ) (e : ρ[i]? = some s) (hs : s.own = true) (hv : σ[i]? = some (some (.ref p))) (hs' : s'.own = true) (hoc : OC K F s' u) : Rep K F G (upd H p u) fx (ρ.set i s') σ := by
  obtain ⟨p', o, h1, h2, h3, h4, h5⟩ := (R.sl i s e).own hs
  rw [hv] at h1; cases h1
  have back : ∀ j b, Owns (ρ.set i s') σ j b → Owns ρ σ j b := fun j b ⟨x, q, z⟩ => by
    rcases set_get? q with ⟨rfl, rfl⟩ | ⟨hj, q⟩
    · exact ⟨s, e, (SV.at_own hs).mpr ((SV.at_own hs').mp z)⟩
    · exact ⟨x, q, z⟩
  refine ⟨fun b w q => ?_, fun b w q => ?_, R.fg, by rw [List.length_set]; exact R.len, fun j x q => ?_, fun j k b q1 q2 => R.nd j k b (back j b q1) (back k b q2), R.fix⟩
  · rw [upd_ne (ne_of_none q h3)]; exact R.fh _ _ q
  · rw [upd_ne (ne_of_none q h4)]; exact R.gh _ _ q
  · rcases set_get? q with ⟨rfl, rfl⟩ | ⟨hj, q⟩
    · exact SlOk.of_own hs' ⟨p, u, hv, upd_same, h3, h4, hoc⟩
    · refine (R.sl j x q).move (Same.refl F) fun b hb => ?_
      obtain ⟨w, k2, k3, k4, _⟩ := (R.sl j x q).cell hb
      have ne : b ≠ p := fun z => hj (R.nd j i p ⟨x, q, by rw [← z]; exact hb⟩ (.of e hs hv))
      exact ⟨k3, k4, by rw [upd_ne ne]⟩

/-! ### methods of an owned list that write -/
def owAt (ρ : DE) (i : Nat) : Option (List D) := match ρ[i]? with
  | some (.ow xs) => some xs
  | _ => none
theorem owAt_some {i : Nat} {xs : List D} (h : owAt ρ i = some xs) : ρ[i]? = some (.ow xs) := by
  unfold owAt at h
  split at h
  · rename_i q; cases h; exact q
  · cases h
abbrev PO := List D → List D → (D → List D → Prop) → Prop
structure SndO (K : PySem.W.Frag) (r : V → List V → Hp → VK → Prop) (P : PO) : Prop where
  ok : ∀ {F H a vs xs us ds k} {Q : VK}, H a = some (.lst vs) → SF F H → DatL K F vs xs → DatL K F us ds → P xs ds k → (∀ d ys, k d ys → ∀ v vs', Dat K F v d → DatL K F vs' ys → Q v (upd H a (.lst vs'))) → r (.ref a) us H Q
def mOwn (i : Nat) (P : PO) (ml : ML) : M := fun ρ Q X => (∃ xs, owAt ρ i = some xs) ∧ ml ρ (fun ds ρ2 => match owAt ρ2 i with
  | some xs => P xs ds fun d ys => Q (.v d) (ρ2.set i (.ow ys))
  | none => False) X
theorem Rep.owAt {i : Nat} {xs : List D} (R : Rep K F G H fx ρ σ) (h : owAt ρ i = some xs) : ∃ a vs, σ[i]? = some (some (.ref a)) ∧ H a = some (.lst vs) ∧ DatL K F vs xs := by
  obtain ⟨a, o, h1, h2, h3, h4, h5⟩ := R.sl i _ (owAt_some h)
  cases o <;> first | exact h5.elim | skip
  exact ⟨a, _, h1, h2, h5⟩
section
variable {id : String} {name : Str} {apos cpos p1 : Pos} {r : V → List V → Hp → VK → Prop} {P : PO} {x : Str}
theorem ts_own {i : Nat} {ta : TA} {Q : VK} (S : SndO K r P) (ha : ∀ Q, tSL K fx W ml σ H Q → ta σ H Q) (h : tS K fx W (mOwn i P ml) σ H Q) : tBM K "list" r (tVar i) ta σ H Q := by
  obtain ⟨F, G, ρ, Q0, X0, R, ⟨⟨xs, e0⟩, h⟩, q, x⟩ := h
  obtain ⟨a, vs, hv, hH, _⟩ := R.owAt e0
  refine ⟨.ref a, hv, Or.inl ⟨rfl, _, Or.inl (Or.inl hH)⟩, ha _ ⟨F, G, ρ, _, X0, R, h, fun ds ρ2 h2 F2 H2 us s2 R2 k2 => ?_, x⟩⟩
  cases e2 : owAt ρ2 i with
  | none => rw [e2] at h2; exact h2.elim
  | some ys =>
    rw [e2] at h2
    obtain ⟨a', ws, hv', hH', dw⟩ := R2.owAt e2
    rw [hv] at hv'; cases hv'
    exact S.ok hH' R2.fh dw k2 h2 fun d zs hk v vs' hd hvs => q _ _ hk F2 _ v s2 (R2.wr (owAt_some e2) rfl hv rfl hvs) hd
theorem es_own (i : Nat) (slot : Slot "list" name id) (hty : typeOf (.builtin id) = pure (.type "method_descriptor")) (hm : MtR X id r) (S : SndO X.K r P) (ha : EL X fx W (e :: es) ml)
    (hN : X.N[i]? = some x := by rfl) (hv : Vis X.env.scope x := by first | exact Or.inl rfl | exact Or.inr (Or.inl rfl) | exact Or.inr (Or.inr rfl)) (hd : (x == ("__debug__" : Str)) = false := by decide) (hcd : (x == ("__classdict__" : Str)) = false := by decide)
    (hbase : attributeBase (.Name x p1) name X.env (eval (.Name x p1) X.env) = eval (.Name x p1) X.env := by rfl)
    (hfew : ((backTo cpos (starEach (e :: es) X.env)).all (fun x => !x.1) && (backToKw cpos (keywordEach [] X.env)).all (fun x => x.1.isSome)
      && decide ((e :: es).length + ([] : List Keyword).length + (if ([] : List Keyword).isEmpty then 0 else 1) < 30)) = true := by rfl)
    (hline : (apos.endLine == cpos.line) = true := by rfl) (hs : starEach (e :: es) X.env = (false, eval e X.env) :: starEach es X.env := by rfl) (hplain : (backTo cpos (starEach es X.env)).any (·.1) = false := by rfl) :
    ES X fx W (.Call (.Attribute (.Name x p1) name apos) (e :: es) [] cpos) (mOwn i P ml) :=
  pe_imp (pe_bm PySem.F.plainAttrs_list slot hty hm (pe_var hN hv hd hcd) ha hbase hfew hline hs hplain) fun σ H Q h => ts_own S (fun _ z => z) h
theorem es_own0 (i : Nat) (slot : Slot "list" name id) (hty : typeOf (.builtin id) = pure (.type "method_descriptor")) (hm : MtR X id r) (S : SndO X.K r P)
    (hN : X.N[i]? = some x := by rfl) (hv : Vis X.env.scope x := by first | exact Or.inl rfl | exact Or.inr (Or.inl rfl) | exact Or.inr (Or.inr rfl)) (hd : (x == ("__debug__" : Str)) = false := by decide) (hcd : (x == ("__classdict__" : Str)) = false := by decide)
    (hbase : attributeBase (.Name x p1) name X.env (eval (.Name x p1) X.env) = eval (.Name x p1) X.env := by rfl) (hline : (apos.endLine == cpos.line) = true := by rfl) :
    ES X fx W (.Call (.Attribute (.Name x p1) name apos) [] [] cpos) (mOwn i P lNil) :=
  pe_imp (pe_bm0 PySem.F.plainAttrs_list slot hty hm (pe_var hN hv hd hcd) hbase hline) fun σ H Q h => by
    have z := ts_own (ta := tNil) S (fun Q' ⟨F, G, ρ, Q0, X0, R, h, q, x⟩ => q _ _ h F H [] (Same.refl F) R .nil) h
    exact z
end
def pApp : PO := fun xs ds k => match ds with
  | [d] => xs.length < sizeLine ∧ k .non (xs ++ [d])
  | _ => False
theorem sndo_app : SndO K rAppend pApp where
  ok := by
    intro F H a vs xs us ds k Q hH sf dv du hp q
    unfold pApp at hp
    split at hp
    · cases du with
      | cons h t =>
        cases t
        exact ⟨a, vs, _, rfl, rfl, hH, by rw [dv.length]; exact hp.1, q _ _ hp.2 _ _ .non (dv.append (.cons h .nil))⟩
    · exact hp.elim
def pExt : PO := fun xs ds k => match ds with
  | [.lst zs] => xs.length + zs.length ≤ sizeLine ∧ k .non (xs ++ zs)
  | _ => False
theorem sndo_ext : SndO K rExtend pExt where
  ok := by
    intro F H a vs xs us ds k Q hH sf dv du hp q
    unfold pExt at hp
    split at hp
    · cases du with
      | cons h t =>
        cases t
        cases h with
        | lst z1 z2 => exact ⟨a, _, vs, _, rfl, rfl, hH, sf.lst z1, by rw [dv.length, z2.length]; exact hp.1, q _ _ hp.2 _ _ .non (dv.append z2)⟩
    · exact hp.elim
def pPop : PO := fun xs ds k => ds = [] ∧ match xs[xs.length - 1]? with
  | some y => k y xs.dropLast
  | none => False
theorem DatL.dropLast {vs : List V} {xs : List D} (h : DatL K F vs xs) : DatL K F vs.dropLast xs.dropLast := by
  rw [List.dropLast_eq_take, List.dropLast_eq_take, h.length]
  exact h.take _
theorem sndo_pop : SndO K rPop pPop where
  ok := by
    intro F H a vs xs us ds k Q hH sf dv du hp q
    obtain ⟨rfl, hp⟩ := hp
    cases du
    split at hp
    · rename_i y hy
      obtain ⟨v, h1, h2⟩ := dv.get hy
      exact ⟨a, vs, v, rfl, rfl, hH, by rw [dv.length]; exact h1, q _ _ hp _ _ h2 dv.dropLast⟩
    · exact hp.elim
theorem DatL.erase : ∀ {vs : List V} {xs : List D} (i : Nat), DatL K F vs xs → DatL K F (vs.eraseIdx i) (xs.eraseIdx i)
  | _, _, _, .nil => .nil
  | _, _, 0, .cons _ t => t
  | _, _, i + 1, .cons h t => .cons h (DatL.erase i t)
def pPopAt : PO := fun xs ds k => match ds with
  | [.int i] => -(2 ^ 63) ≤ i ∧ i < 2 ^ 63 ∧ ∃ j y, seqIndex? i xs.length = some j ∧ xs[j]? = some y ∧ k y (xs.eraseIdx j)
  | _ => False
theorem sndo_popAt : SndO K rPopAt pPopAt where
  ok := by
    intro F H a vs xs us ds k Q hH sf dv du hp q
    unfold pPopAt at hp
    split at hp
    · obtain ⟨h1, h2, j, y, h3, h4, h5⟩ := hp
      cases du with
      | cons h t =>
        cases t
        cases h
        obtain ⟨v, k1, k2⟩ := dv.get h4
        exact ⟨a, vs, _, j, v, rfl, rfl, hH, h1, h2, by rw [dv.length]; exact h3, k1, q _ _ h5 _ _ k2 (dv.erase j)⟩
    · exact hp.elim
def pRev : PO := fun xs ds k => ds = [] ∧ k .non xs.reverse
theorem sndo_rev : SndO K rReverse pRev where
  ok := by
    intro F H a vs xs us ds k Q hH sf dv du hp q
    obtain ⟨rfl, hp⟩ := hp
    cases du
    exact ⟨a, vs, rfl, rfl, hH, q _ _ hp _ _ .non dv.reverse⟩
def pIns : PO := fun xs ds k => match ds with
  | [.int i, d] => xs.length < sizeLine ∧ 0 ≤ i ∧ i < 2 ^ 63 ∧ k .non (xs.take i.toNat ++ [d] ++ xs.drop i.toNat)
  | _ => False
theorem sndo_ins : SndO K (fun x vs H Q => ∃ (l : Addr) (xs : List V) (i : Int) (y : V), x = .ref l ∧ vs = [.int i, y] ∧ H l = some (.lst xs) ∧ xs.length < sizeLine ∧ 0 ≤ i ∧ i < 2 ^ 63 ∧ Q .non (upd H l (.lst (xs.take i.toNat ++ [y] ++ xs.drop i.toNat)))) pIns where
  ok := by
    intro F H a vs xs us ds k Q hH sf dv du hp q
    unfold pIns at hp
    split at hp
    · cases du with
      | cons h t =>
        cases t with
        | cons h' t' =>
          cases t'
          cases h
          exact ⟨a, vs, _, _, rfl, rfl, hH, by rw [dv.length]; exact hp.1, hp.2.1, hp.2.2.1, q _ _ hp.2.2.2 _ _ .non (((dv.take _).append (.cons h' .nil)).append (dv.drop _))⟩
    · exact hp.elim
section
variable {apos cpos p1 : Pos} {x : Str}
theorem es_append (i : Nat) (ha : ES X fx W e ma) 
    (hN : X.N[i]? = some x := by rfl) (hv : Vis X.env.scope x := by first | exact Or.inl rfl | exact Or.inr (Or.inl rfl) | exact Or.inr (Or.inr rfl)) (hd : (x == ("__debug__" : Str)) = false := by decide) (hcd : (x == ("__classdict__" : Str)) = false := by decide)
    (hbase : attributeBase (.Name x p1) "append" X.env (eval (.Name x p1) X.env) = eval (.Name x p1) X.env := by rfl)
    (hfew : ((backTo cpos (starEach [e] X.env)).all (fun x => !x.1) && (backToKw cpos (keywordEach [] X.env)).all (fun x => x.1.isSome)
      && decide ([e].length + ([] : List Keyword).length + (if ([] : List Keyword).isEmpty then 0 else 1) < 30)) = true := by rfl)
    (hline : (apos.endLine == cpos.line) = true := by rfl) (hs : starEach [e] X.env = (false, eval e X.env) :: starEach [] X.env := by rfl) :
    ES X fx W (.Call (.Attribute (.Name x p1) "append" apos) [e] [] cpos) (mOwn i pApp (lCons ma lNil)) :=
  es_own i PySem.F.slot_list_append PySem.F.type_list_append mt_append sndo_app (el_cons ha el_nil hs) hN hv hd hcd hbase hfew hline hs rfl
theorem es_extend (i : Nat) (ha : ES X fx W e ma) 
    (hN : X.N[i]? = some x := by rfl) (hv : Vis X.env.scope x := by first | exact Or.inl rfl | exact Or.inr (Or.inl rfl) | exact Or.inr (Or.inr rfl)) (hd : (x == ("__debug__" : Str)) = false := by decide) (hcd : (x == ("__classdict__" : Str)) = false := by decide)
    (hbase : attributeBase (.Name x p1) "extend" X.env (eval (.Name x p1) X.env) = eval (.Name x p1) X.env := by rfl)
    (hfew : ((backTo cpos (starEach [e] X.env)).all (fun x => !x.1) && (backToKw cpos (keywordEach [] X.env)).all (fun x => x.1.isSome)
      && decide ([e].length + ([] : List Keyword).length + (if ([] : List Keyword).isEmpty then 0 else 1) < 30)) = true := by rfl)
    (hline : (apos.endLine == cpos.line) = true := by rfl) (hs : starEach [e] X.env = (false, eval e X.env) :: starEach [] X.env := by rfl) :
    ES X fx W (.Call (.Attribute (.Name x p1) "extend" apos) [e] [] cpos) (mOwn i pExt (lCons ma lNil)) :=
  es_own i PySem.F.slot_list_extend PySem.F.type_list_extend mt_extend sndo_ext (el_cons ha el_nil hs) hN hv hd hcd hbase hfew hline hs rfl
theorem es_insert (i : Nat) (ha : ES X fx W a ma) (hb : ES X fx W b mb)
    (hN : X.N[i]? = some x := by rfl) (hv : Vis X.env.scope x := by first | exact Or.inl rfl | exact Or.inr (Or.inl rfl) | exact Or.inr (Or.inr rfl)) (hd : (x == ("__debug__" : Str)) = false := by decide) (hcd : (x == ("__classdict__" : Str)) = false := by decide)
    (hbase : attributeBase (.Name x p1) "insert" X.env (eval (.Name x p1) X.env) = eval (.Name x p1) X.env := by rfl)
    (hfew : ((backTo cpos (starEach [a, b] X.env)).all (fun x => !x.1) && (backToKw cpos (keywordEach [] X.env)).all (fun x => x.1.isSome)
      && decide ([a, b].length + ([] : List Keyword).length + (if ([] : List Keyword).isEmpty then 0 else 1) < 30)) = true := by rfl)
    (hline : (apos.endLine == cpos.line) = true := by rfl) (hs : starEach [a, b] X.env = (false, eval a X.env) :: starEach [b] X.env := by rfl) (hs' : starEach [b] X.env = (false, eval b X.env) :: starEach [] X.env := by rfl)
    (hplain : (backTo cpos (starEach [b] X.env)).any (·.1) = false := by rfl) :
    ES X fx W (.Call (.Attribute (.Name x p1) "insert" apos) [a, b] [] cpos) (mOwn i pIns (lCons ma (lCons mb lNil))) :=
  es_own i PySem.F.slot_list_insert PySem.F.type_list_insert mt_insert sndo_ins (el_cons ha (el_cons hb el_nil hs') hs) hN hv hd hcd hbase hfew hline hs hplain
theorem es_pop (i : Nat) 
    (hN : X.N[i]? = some x := by rfl) (hv : Vis X.env.scope x := by first | exact Or.inl rfl | exact Or.inr (Or.inl rfl) | exact Or.inr (Or.inr rfl)) (hd : (x == ("__debug__" : Str)) = false := by decide) (hcd : (x == ("__classdict__" : Str)) = false := by decide)
    (hbase : attributeBase (.Name x p1) "pop" X.env (eval (.Name x p1) X.env) = eval (.Name x p1) X.env := by rfl) (hline : (apos.endLine == cpos.line) = true := by rfl) :
    ES X fx W (.Call (.Attribute (.Name x p1) "pop" apos) [] [] cpos) (mOwn i pPop lNil) :=
  es_own0 i PySem.F.slot_list_pop PySem.F.type_list_pop mt_pop sndo_pop hN hv hd hcd hbase hline
theorem es_reverse (i : Nat) 
    (hN : X.N[i]? = some x := by rfl) (hv : Vis X.env.scope x := by first | exact Or.inl rfl | exact Or.inr (Or.inl rfl) | exact Or.inr (Or.inr rfl)) (hd : (x == ("__debug__" : Str)) = false := by decide) (hcd : (x == ("__classdict__" : Str)) = false := by decide)
    (hbase : attributeBase (.Name x p1) "reverse" X.env (eval (.Name x p1) X.env) = eval (.Name x p1) X.env := by rfl) (hline : (apos.endLine == cpos.line) = true := by rfl) :
    ES X fx W (.Call (.Attribute (.Name x p1) "reverse" apos) [] [] cpos) (mOwn i pRev lNil) :=
  es_own0 i PySem.F.slot_list_reverse PySem.F.type_list_reverse mt_reverse sndo_rev hN hv hd hcd hbase hline
end

/-! ### xs.index(e) -/
def firstAt (xs : List PyData) (y : PyData) : Option Nat := xs.findIdx? fun x => PyData.eqv x y
def fIndex : F2 := fun d e Q => match d.py, e.py with
  | some (.list ps), some q => if SeqAt.shaped (.list ps) = true ∧ SeqAt.shaped q = true then (match firstAt ps q with
    | some j => Q (.v (.int (j : Nat)))
    | none => False) else False
  | _, _ => False
def mMt2 (f : F2) (mo ma : M) : M := fun ρ Q X => mo ρ (fun r ρ1 => onD (r.at ρ1) fun d0 => (∃ xs, d0 = .lst xs) ∧ ma ρ1 (fun r2 ρ2 => onD (r.keep.at ρ2) fun d1 => onD (r2.at ρ2) fun d2 => f d1 d2 fun r => Q r ρ2) X) X
theorem snd_index : Snd2 K (fun x y => rIndexD K x [y]) fIndex where
  ok := by
    intro F G H fx ρ σ x y d e Q0 Q R h1 h2 hf q
    unfold fIndex at hf
    split at hf
    · rename_i ps qq hp hq
      split at hf
      · rename_i hs
        split at hf
        · rename_i j hj
          have hd1 := h1.dp R hp
          have hd2 := h2.dp R hq
          obtain ⟨a, rfl⟩ : ∃ a, x = V.ref a := by cases hd1 with | lst h _ => exact ⟨_, rfl⟩
          unfold firstAt at hj
          obtain ⟨hlt, hz, hno⟩ := List.findIdx?_eq_some_iff_getElem.mp hj
          refine ⟨a, y, qq, ps, j, ps[j], rfl, rfl, hd1, hd2, hs.1, hs.2, List.getElem?_eq_getElem hlt, hz, fun n z' hn hz' => ?_, q _ hf F H _ (Same.refl F) R (.int _)⟩
          obtain ⟨hl, rfl⟩ := List.getElem?_eq_some_iff.mp hz'
          have := hno n hn
          simpa using this
        · exact hf.elim
      · exact hf.elim
    · exact hf.elim
theorem es_index {apos cpos : Pos} (hu : X.A.units + 65 < cLine) (ho : ES X fx W o mo) (ha : ES X fx W e ma)
    (hbase : attributeBase o "index" X.env (eval o X.env) = eval o X.env := by rfl)
    (hfew : ((backTo cpos (starEach [e] X.env)).all (fun x => !x.1) && (backToKw cpos (keywordEach [] X.env)).all (fun x => x.1.isSome)
      && decide ([e].length + ([] : List Keyword).length + (if ([] : List Keyword).isEmpty then 0 else 1) < 30)) = true := by rfl)
    (hline : (apos.endLine == cpos.line) = true := by rfl) (hs : starEach [e] X.env = (false, eval e X.env) :: starEach [] X.env := by rfl) :
    ES X fx W (.Call (.Attribute o "index" apos) [e] [] cpos) (mMt2 fIndex mo ma) :=
  pe_imp (pe_bm PySem.F.plainAttrs_list PySem.F.slot_list_index PySem.F.type_list_index (mt_indexD hu) ho (pa_cons ha pa_nil hs) hbase hfew hline hs rfl) fun σ H Q ⟨F, G, ρ, Q0, X0, R, h, q, x⟩ => by
    refine ⟨F, G, ρ, _, X0, R, h, fun r1 ρ1 h1 F1 H1 v1 s1 R1 k1 => ?_, x⟩
    obtain ⟨d0, e0, ⟨xs0, rfl⟩, h1⟩ := onD_some h1
    obtain ⟨a0, vs0, rfl, ha0, _⟩ := (k1.top R1 e0).lst_inv R1
    refine ⟨Or.inl ⟨rfl, _, Or.inl (Or.inl ha0)⟩, ?_⟩
    obtain ⟨F2, s2, R2, k2⟩ := k1.keep R1
    refine ⟨F2, G, ρ1, _, X0, R2, h1, fun r2 ρ2 h2 F3 H3 v2 s3 R3 k3 => ?_, x.mono (s1.trans s2)⟩
    obtain ⟨d1, e1, h2⟩ := onD_some h2
    obtain ⟨d2, e2, h2⟩ := onD_some h2
    exact snd_index.ok R3 (RvOk.top R3 (k2 F3 H3 ρ2 s3) e1) (k3.top R3 e2) h2 fun r0 p F4 H4 v4 s4 R4 k4 => q _ _ p F4 H4 v4 (((s1.trans s2).trans s3).trans s4) R4 k4

/-! ### stores into owned cells -/
theorem PSet.or {t t' : TSet} (h : PSet X t) (h' : PSet X t') : PSet X (fun o i v H Q => t o i v H Q ∨ t' o i v H Q) := by
  intro pins s σ H o i v ov iv u Q I ro ri rv q
  rcases q with q | q
  · exact h pins s σ H o i v ov iv u Q I ro ri rv q
  · exact h' pins s σ H o i v ov iv u Q I ro ri rv q
/-- a slot at j is written at the key e by d -/
def putAt (ρ : DE) (j : Nat) (e d : D) (k : DE → Prop) : Prop := match ρ[j]? with
  | some (.ow xs) => (match e with
    | .int i => (match ixN xs.length i with
      | some n => k (ρ.set j (.ow (xs.set n d)))
      | none => False)
    | _ => False)
  | some (.od kvs) => (match e.key with
    | some y => kvs.length < sizeLine ∧ k (ρ.set j (.od (putD kvs y d)))
    | none => False)
  | _ => False
def ownAt (ρ : DE) (i : Nat) : Prop := ∃ s, ρ[i]? = some s ∧ s.own = true
theorem Rep.ownAt {i : Nat} (R : Rep K F G H fx ρ σ) (h : ownAt ρ i) : ∃ a, σ[i]? = some (some (.ref a)) := by
  obtain ⟨s, e, hs⟩ := h
  obtain ⟨a, o, h1, _⟩ := (R.sl i s e).own hs
  exact ⟨a, h1⟩
theorem put_ok {j : Nat} {p : DE → Prop} {x y u : V} {k : D} (R : Rep K F G H fx ρ σ) (hv : σ[j]? = some (some x)) (hk : Top K F H y k) (hd : Dat K F u d) (h : putAt ρ j k d p) {Q : Hp → Prop} (q : ∀ ρ', p ρ' → ∀ H', Rep K F G H' fx ρ' σ → Q H') :
    rSetL x y u H Q ∨ rSetD x y u H Q := by
  unfold putAt at h
  split at h
  · rename_i xs e
    split at h
    · rename_i i
      split at h
      · rename_i n hn
        obtain ⟨a, o, h1, h2, h3, h4, h5⟩ := R.sl j _ e
        rw [hv] at h1; cases h1
        cases o <;> first | exact h5.elim | skip
        rw [hk.int_inv]
        exact .inl ⟨a, _, i, n, rfl, rfl, h2, by rw [DatL.length h5]; exact hn, q _ h _ (R.wr e rfl hv rfl (DatL.set n h5 hd))⟩
      · exact h.elim
    · exact h.elim
  · rename_i kvs e
    split at h
    · rename_i y' hy
      obtain ⟨a, o, h1, h2, h3, h4, h5⟩ := R.sl j _ e
      rw [hv] at h1; cases h1
      cases o <;> first | exact h5.elim | skip
      rw [hk.key hy]
      exact .inr ⟨a, _, rfl, DPut.k h2 (by rw [DatK.length h5]; exact h.1), q _ h.2 _ (R.wr e rfl hv rfl (DatK.put h5 hd))⟩
    · exact h.elim
  · exact h.elim
def sPut (j : Nat) (m mi : M) : MS := fun ρ E => m ρ (fun r ρ1 => onC (r.cap ρ1) fun d ρ2 => ownAt ρ2 j ∧ mi ρ2 (fun ri ρ3 => onD (ri.at ρ3) fun k => putAt ρ3 j k d E.nx) E.ex) E.ex
theorem ss_put (j : Nat) {x : Str} {p1 p2 : Pos} {i : Expr} {mi : M} (hu : X.A.units + 1 < cLine) (he : ES X fx W e m) (hi : ES X fx W i mi)
    (hN : X.N[j]? = some x := by rfl) (hv : Vis X.env.scope x := by first | exact Or.inl rfl | exact Or.inr (Or.inl rfl) | exact Or.inr (Or.inr rfl)) (hd : (x == ("__debug__" : Str)) = false := by decide) (hcd : (x == ("__classdict__" : Str)) = false := by decide)
    (ha : ∀ v, assign (.Subscript (.Name x p1) i p2) X.env v = (do
      let ov ← holding [v] (eval (.Name x p1) X.env)
      let iv ← holding [v, ov] (eval i X.env)
      standAt p2
      holding [v, ov, iv] (setItem ov iv v)
      release [v, ov, iv] []) := by intro _; rfl)
    (hs : swapsWithSole [.Subscript (.Name x p1) i p2] e pos.line X.env = pure false := by rfl) (hw : swappedStores [.Subscript (.Name x p1) i p2] e X.env = pure none := by rfl)
    (h1 : (assignEach [.Subscript (.Name x p1) i p2] X.env).map (·.2) = [assign (.Subscript (.Name x p1) i p2) X.env] := by rfl) :
    SS X fx W (.Assign [.Subscript (.Name x p1) i p2] e pos) (sPut j m mi) :=
  ps_imp (ps_asg he (pg_sub (pe_var hN hv hd hcd) hi (PSet.or set_list (set_dict hu)) ha) hs hw h1) fun D σ H ⟨F, G, ρ, E0, R, h, k⟩ => by
    refine ⟨F, G, ρ, _, _, R, h, fun r ρ1 h1 F1 H1 v1 s1 R1 k1 => ?_, k.ex σ⟩
    obtain ⟨d, ρ2, e1, ho, h1⟩ := onC_some h1
    obtain ⟨F2, s2, R2, k2⟩ := k1.cap R1 e1
    obtain ⟨q, hq⟩ := R2.ownAt ho
    refine ⟨.ref q, hq, F2, G, ρ2, _, _, R2, h1, fun ri ρ3 h3 F3 H3 v3 s3 R3 k3 => ?_, (k.ex σ).mono (s1.trans s2)⟩
    obtain ⟨kk, e3, h3⟩ := onD_some h3
    exact put_ok R3 hq (k3.top R3 e3) (k2.mono s3) h3 fun ρ' z H' R' => k.nx ρ' z F3 H' σ ((s1.trans s2).trans s3) R'

/-! ### x op= e -/
def CIp (op : Operator) (i j : Int) : Prop := match op with
  | .Add => True
  | .Sub => True
  | .Mult => CMulW i j
  | _ => False
def opI2 (op : Operator) (i j : Int) : Int := match op with
  | .Add => i + j
  | .Sub => i - j
  | _ => i * j
def ipA (op : Operator) : TIp := fun x y H Q => ∃ i j, x = .int i ∧ y = .int j ∧ CIp op i j ∧ Q (.int (opI2 op i j)) H
theorem ip_all (op : Operator) : PIp X op (ipA op) := by
  intro pins s σ H x y v u Q I r1 r2 h
  obtain ⟨i, j, e1, e2, hc, q⟩ := h
  subst e1; subst e2
  obtain ⟨t, rfl⟩ := r1
  obtain ⟨t', rfl⟩ := r2
  cases op <;> first | exact hc.elim | skip
  · exact iadd_int ⟨.int _, H, I.tok _, ⟨_, rfl⟩, q⟩
  · exact isub_int ⟨.int _, H, I.tok _, ⟨_, rfl⟩, q⟩
  · exact PyProof.Rows.imul_int ⟨.int _, H, I.tok _, ⟨_, rfl⟩, q⟩ (CMulW.ok hc)
def sAug (op : Operator) (i : Nat) (m : M) : MS := fun ρ E => match ρ[i]? with
  | some (.fz (.int a)) => m ρ (fun r ρ1 => onD (r.at ρ1) fun d => match d with
    | .int b => CIp op a b ∧ E.nx (ρ1.set i (.fz (.int (opI2 op a b))))
    | _ => False) E.ex
  | _ => False
theorem ss_aug (op : Operator) (i : Nat) {x : Str} (hN : X.N.Nodup) (he : ES X fx W e m) (hi : X.N[i]? = some x := by rfl) (hx : Loc X.env.scope x := by first | exact Or.inl rfl | exact Or.inr rfl) (hfx : fxOk fx i = true := by rfl)
    (hf : X.fn x = true ∨ X.env.scope.names.lookup x = some .local := by first | exact .inl rfl | exact .inr rfl) : SS X fx W (.AugAssign (.Name x pos') op e pos) (sAug op i m) :=
  ps_imp (ps_aug hN hi hx he (ip_all op) hf) fun D σ H ⟨F, G, ρ, E0, R, h, k⟩ => by
    unfold sAug at h
    split at h
    · rename_i a ea
      obtain ⟨v, hv, dv⟩ := R.sl i _ ea
      cases dv
      refine ⟨_, hv, F, G, ρ, _, _, R, h, fun r ρ1 h1 F1 H1 v1 s1 R1 k1 => ?_, k.ex σ⟩
      obtain ⟨d, e1, h1⟩ := onD_some h1
      split at h1
      · rename_i b
        rw [(k1.top R1 e1).int_inv]
        exact ⟨a, b, rfl, rfl, h1.1, k.nx _ h1.2 F1 H1 _ s1 (R1.setFz (.int _) hfx)⟩
      · exact h1.elim
    · exact h.elim
/-- o[i], by values -/
theorem pget_list : PGet X (rIxL X.K) := by
  intro pins s σ H x y v u Q I rx ry h
  obtain ⟨p, xs, i, z, rfl, rfl, hq, he, q⟩ := h
  cases rx
  obtain ⟨t, rfl⟩ := ry
  obtain ⟨its, r, pl, hz⟩ := I.list hq
  obtain ⟨j, g1, g2, g3, g4, g5⟩ := atI_get he
  obtain ⟨w, ew, rw'⟩ := r.get g2
  have hl := r.length
  have hn := line63
  have fin : EP X pins σ Q w s := ⟨z, H, I, rw', q⟩
  by_cases h0 : 0 ≤ i
  · have hj : i.toNat = j := Option.some.inj ((seqIndex_of h0 g5).symm.trans g1)
    exact wpAny_getItem_list pl.isList h0 (by omega) (by rw [hj]; simpa using ew) fin
  · have hj : (i + (its.toArray.size : Int)).toNat = j := by
      rw [List.size_toArray, ← hl]
      exact Option.some.inj ((seqIndex_neg (by omega) g4).symm.trans g1)
    exact wpAny_getItem_list_neg pl.isList (by omega) (by rw [List.size_toArray, ← hl]; exact g4) (by omega) (by rw [hj]; simpa using ew) fin
/-- x[i] op= e of an owned list of ints -/
def sAugIx (op : Operator) (j : Nat) (mi m : M) : MS := fun ρ E => ownAt ρ j ∧ mi ρ (fun ri ρ1 => onD (ri.at ρ1) fun k => match k with
  | .int i => (match owAt ρ1 j with
    | some xs => (match ixN xs.length i with
      | some n => (match xs[n]? with
        | some (.int a) => m ρ1 (fun r ρ2 => onD (r.at ρ2) fun d => match d with
          | .int b => CIp op a b ∧ putAt ρ2 j (.int i) (.int (opI2 op a b)) E.nx
          | _ => False) E.ex
        | _ => False)
      | none => False)
    | none => False)
  | _ => False) E.ex
theorem atI_of {α : Type} {xs : List α} {i : Int} {n : Nat} (h : ixN xs.length i = some n) : atI xs i = xs[n]? := by
  unfold atI
  rw [h]; rfl
theorem ss_augIx (op : Operator) (j : Nat) {x : Str} {i : Expr} {p1 p2 : Pos} {mi : M} (hu : X.A.units + 1 < cLine) (hi : ES X fx W i mi) (he : ES X fx W e m)
    (hN : X.N[j]? = some x := by rfl) (hv : Vis X.env.scope x := by first | exact Or.inl rfl | exact Or.inr (Or.inl rfl) | exact Or.inr (Or.inr rfl)) (hd : (x == ("__debug__" : Str)) = false := by decide) (hcd : (x == ("__classdict__" : Str)) = false := by decide)
    (ha : ∀ ov iv new, augStore i ov iv new = (do holding [new, ov, iv] (setItem ov iv new); release [new, ov, iv] []; pure .next) := by intros; rfl) :
    SS X fx W (.AugAssign (.Subscript (.Name x p1) i p2) op e pos) (sAugIx op j mi m) :=
  ps_imp (ps_augS (pe_var hN hv hd hcd) hi pget_list he (ip_all op) (PSet.or set_list (set_dict hu)) ha) fun D σ H ⟨F, G, ρ, E0, R, ⟨ho, h⟩, k⟩ => by
    obtain ⟨q, hq⟩ := R.ownAt ho
    refine ⟨.ref q, hq, F, G, ρ, _, _, R, h, fun ri ρ1 h1 F1 H1 v1 s1 R1 k1 => ?_, k.ex σ⟩
    obtain ⟨kk, e1, h1⟩ := onD_some h1
    split at h1
    · rename_i i
      split at h1
      · rename_i xs hxs
        split at h1
        · rename_i n hn
          split at h1
          · rename_i a ea
            obtain ⟨q', vs, hq', hH, dv⟩ := R1.owAt hxs
            rw [hq] at hq'; cases hq'
            have hki := (k1.top R1 e1).int_inv
            subst hki
            obtain ⟨w, hw, dw⟩ := dv.get ea
            cases dw
            refine ⟨q, vs, i, .int a, rfl, rfl, SqL.of hH, by rw [atI_of (by rw [dv.length]; exact hn)]; exact hw, F1, G, ρ1, _, _, R1, h1, fun r ρ2 h2 F2 H2 v2 s2 R2 k2 => ?_, (k.ex σ).mono s1⟩
            obtain ⟨d, e2, h2⟩ := onD_some h2
            split at h2
            · rename_i b
              rw [(k2.top R2 e2).int_inv]
              exact ⟨a, b, rfl, rfl, h2.1, put_ok R2 hq (.dat (.int i)) (.int _) h2.2 fun ρ' z H' R' => k.nx ρ' z F2 H' σ (s1.trans s2) R'⟩
            · exact h2.elim
          · exact h1.elim
        · exact h1.elim
      · exact h1.elim
    · exact h1.elim
end
end BB

namespace BB
open PySem PySem.Spec PyProof.Rows L2
section
variable {X : Cx} {K : PySem.W.Frag} {F F' G G' H H' : Hp} {fx : List (Nat × Addr)} {W : WX} {ρ ρ' ρ1 ρ2 : DE} {σ σ' : L2.St} {pos pos' : Pos} {e a b c o : Expr} {es : List Expr} {m ma mb mc mo : M} {ml : ML} {mg : MA} {v : V} {d : D}

/-! ### a virtual slot behind the others -/
theorem get_snoc {α : Type} {l : List α} {x y : α} {i : Nat} (h : (l ++ [x])[i]? = some y) : (i < l.length ∧ l[i]? = some y) ∨ (i = l.length ∧ y = x) := by
  by_cases hi : i < l.length
  · rw [List.getElem?_append_left hi] at h
    exact .inl ⟨hi, h⟩
  · have hl : i < (l ++ [x]).length := (List.getElem?_eq_some_iff.mp h).1
    rw [List.length_append, List.length_singleton] at hl
    have : i = l.length := by omega
    subst this
    rw [List.getElem?_append_right (Nat.le_refl _), Nat.sub_self] at h
    exact .inr ⟨rfl, (Option.some.inj h).symm⟩
theorem snoc_last {α : Type} {l : List α} {x : α} : (l ++ [x])[l.length]? = some x := by
  rw [List.getElem?_append_right (Nat.le_refl _), Nat.sub_self]; rfl
theorem Rep.snoc {C p dx : Addr} (R : Rep K F G H fx ρ σ) (hp : H p = none) (hd : H dx = none) (ne : dx ≠ p) : Rep K F G (upd (upd H dx (.own p)) p (.ins C dx [])) fx (ρ ++ [.oi C []]) (σ ++ [some (.ref p)]) := by
  obtain ⟨R1, _, _, _⟩ := R.new (o := .own p) hd
  have hp1 : (upd H dx (.own p)) p = none := by rw [upd_ne (Ne.symm ne)]; exact hp
  obtain ⟨R2, f0, g0, n0⟩ := R1.new (o := .ins C dx []) hp1
  have far : ∀ i b, Owns (ρ ++ [.oi C []]) (σ ++ [some (.ref p)]) i b → (i = ρ.length ∧ b = p) ∨ Owns ρ σ i b := fun i b ⟨s, q, z⟩ => by
    rcases get_snoc q with ⟨h1, h2⟩ | ⟨rfl, rfl⟩
    · rw [List.getElem?_append_left (by rw [← R.len]; exact h1)] at z
      exact .inr ⟨s, h2, z⟩
    · rw [R.len, snoc_last] at z
      have z : some (some (V.ref p)) = some (some (.ref b)) := z
      cases z
      exact .inl ⟨rfl, rfl⟩
  refine ⟨R2.fh, R2.gh, R2.fg, by rw [List.length_append, List.length_append, R.len]; rfl, fun i s q => ?_, fun i j b q1 q2 => ?_, fun y hy => ?_⟩
  · rcases get_snoc q with ⟨h1, h2⟩ | ⟨rfl, rfl⟩
    · rw [List.getElem?_append_left (by rw [← R.len]; exact h1)]
      exact R2.sl i s h2
    · rw [R.len, snoc_last]
      exact ⟨p, _, rfl, upd_same, f0, g0, rfl, .nil⟩
  · rcases far i b q1 with ⟨rfl, rfl⟩ | z1
    · rcases far j _ q2 with ⟨rfl, _⟩ | z2
      · rfl
      · exact absurd z2 (n0 j)
    · rcases far j b q2 with ⟨rfl, rfl⟩ | z2
      · exact absurd z1 (n0 i)
      · exact R.nd i j b z1 z2
  · have := R.fix y hy
    rw [List.getElem?_append_left (List.getElem?_eq_some_iff.mp this).1]
    exact this
theorem Rep.unsnoc {s : SV} {p : Addr} (R0 : ∀ y, y ∈ fx → y.1 < σ.length) (R : Rep K F G H fx (ρ ++ [s]) (σ ++ [some (.ref p)])) : Rep K F G H fx ρ σ ∧ (s.own = true → RvOk K F G H ρ σ (.o s) (.ref p)) ∧ (∀ d, s = .fz d → Dat K F (.ref p) d) ∧ (∀ s1 g, s = .tr s1 g → RvOk K F G H ρ σ (.t s) (.ref p)) := by
  have hl : ρ.length = σ.length := by have := R.len; rw [List.length_append, List.length_append] at this; simpa using this
  have up : ∀ i b, Owns ρ σ i b → Owns (ρ ++ [s]) (σ ++ [some (.ref p)]) i b := fun i b ⟨x, q, z⟩ =>
    ⟨x, by rw [List.getElem?_append_left (List.getElem?_eq_some_iff.mp q).1]; exact q, by rw [List.getElem?_append_left (by rw [← hl]; exact (List.getElem?_eq_some_iff.mp q).1)]; exact z⟩
  have lst := R.sl ρ.length s snoc_last
  have hv : (σ ++ [some (V.ref p)])[ρ.length]? = some (some (.ref p)) := by rw [hl]; exact snoc_last
  rw [hv] at lst
  refine ⟨⟨R.fh, R.gh, R.fg, hl, fun i x q => ?_, fun i j b q1 q2 => R.nd i j b (up i b q1) (up j b q2), fun y hy => ?_⟩, fun hs => ?_, fun d e => ?_, fun s1 g e => ⟨lst, fun a ha i hi => ?_⟩⟩
  · have hi := (List.getElem?_eq_some_iff.mp q).1
    have := R.sl i x (by rw [List.getElem?_append_left hi]; exact q)
    rw [List.getElem?_append_left (by rw [← hl]; exact hi)] at this
    exact this
  · have := R.fix y hy
    rw [List.getElem?_append_left (R0 y hy)] at this
    exact this
  · obtain ⟨b, o, h1, h2, h3, h4, h5⟩ := lst.own hs
    cases h1
    refine ⟨hs, p, o, rfl, h2, h3, h4, h5, fun i hi => ?_⟩
    have := R.nd i ρ.length p (up i p hi) (.of snoc_last hs hv)
    obtain ⟨x, q, _⟩ := hi
    have := (List.getElem?_eq_some_iff.mp q).1
    omega
  · subst e
    obtain ⟨v, h1, h2⟩ := lst
    cases h1
    exact h2
  · have := R.nd i ρ.length a (up i a hi) ⟨s, snoc_last, by rw [hv]; exact ha⟩
    obtain ⟨x, q, _⟩ := hi
    have := (List.getElem?_eq_some_iff.mp q).1
    omega
theorem AaOk.snoc {x : Option V} : ∀ {as : List AA} {vs : List V}, AaOk K F ρ σ as vs → AaOk K F ρ' (σ ++ [x]) as vs
  | [], [], _ => trivial
  | .d y :: as, v :: vs, h => ⟨h.1, AaOk.snoc h.2⟩
  | .ln j :: as, v :: vs, h => ⟨by rw [List.getElem?_append_left (List.getElem?_eq_some_iff.mp h.1).1]; exact h.1, AaOk.snoc h.2⟩
  | [], _ :: _, h => h.elim
  | .d _ :: _, [], h => h.elim
  | .ln _ :: _, [], h => h.elim
theorem aa_lt : ∀ {as : List AA} {vs : List V} {j : Nat}, AaOk K F ρ σ as vs → j ∈ lentOf as → j < σ.length
  | [], [], j, _, h => by cases h
  | .d y :: as, v :: vs, j, h, hj => aa_lt (as := as) h.2 hj
  | .ln k :: as, v :: vs, j, h, hj => by
    rcases List.mem_cons.mp hj with rfl | hj
    · exact (List.getElem?_eq_some_iff.mp h.1).1
    · exact aa_lt (as := as) h.2 hj
  | [], _ :: _, _, h, _ => h.elim
  | .d _ :: _, [], _, h, _ => h.elim
  | .ln _ :: _, [], _, h, _ => h.elim
theorem sv_snoc {s : SV} : ∀ {as : List AA}, (∀ j, j ∈ lentOf as → j < ρ.length) → as.map (AA.sv (ρ ++ [s])) = as.map (AA.sv ρ)
  | [], _ => rfl
  | .d y :: as, h => by rw [List.map_cons, List.map_cons, sv_snoc (as := as) h]; rfl
  | .ln j :: as, h => by
    rw [List.map_cons, List.map_cons, sv_snoc (as := as) fun k hk => h k (List.mem_cons_of_mem _ hk)]
    have hj : (ρ ++ [s])[j]? = ρ[j]? := List.getElem?_append_left (h j List.mem_cons_self)
    have : AA.sv (ρ ++ [s]) (.ln j) = AA.sv ρ (.ln j) := by
      show (match (ρ ++ [s])[j]? with | some s => s | none => SV.no) = (match ρ[j]? with | some s => s | none => SV.no)
      rw [hj]
    rw [this]
theorem gb_snoc {s : SV} : ∀ {as : List AA} {ρa : DE}, (∀ j, j ∈ lentOf as → j < ρ.length) → giveBack as ρa (ρ ++ [s]) = giveBack as ρa ρ ++ [s]
  | [], _, _ => by unfold giveBack; rfl
  | .d _ :: as, [], _ => by unfold giveBack; rfl
  | .ln _ :: as, [], _ => by unfold giveBack; rfl
  | .d _ :: as, _ :: ρa, h => by unfold giveBack; exact gb_snoc (as := as) h
  | .ln j :: as, x :: ρa, h => by
    have hj := h j List.mem_cons_self
    have z : giveBack as ρa (ρ ++ [s]) = giveBack as ρa ρ ++ [s] := gb_snoc (as := as) fun k hk => h k (List.mem_cons_of_mem _ hk)
    show (giveBack as ρa (ρ ++ [s])).set j x = (giveBack as ρa ρ).set j x ++ [s]
    rw [z, List.set_append_left _ _ (by rw [gb_length]; exact hj)]
/-! ### C(..) -/
def tMakeS (C : Addr) (sp : Sp) (E : L2.St → XK) (t : TA) : TE := fun σ H Q => t σ H fun vs H1 => ∀ x dx, H1 x = none → H1 dx = none → dx ≠ x →
  sp (.ref x :: vs) (upd (upd H1 dx (.own x)) x (.ins C dx [])) (fun v H2 => v = .non ∧ Q (.ref x) H2) (E σ)
section
variable {CX : CXT} {k : Nat} {f C : Addr} {fd : FuncData} {ps : List Str} {sp : Sp} {x : Str} {p : Pos} {fs : FS} {t : TA}
theorem run_makeS {pins : List (Addr × Obj)} {s : Shared} {Q : VK} {us : List Value} {vs : List V} {E : XK} (M : Mk X.K C f) (F : FnOk X.prog X.w X.K X.mg X.base CX k f fd ps sp) (hr : Room (k + 1) X.A) (hb : Binds X.K fd ps [])
    (hx : PassesAt CX X σ E) (I : Inv X pins σ H s) (r : Vals vs us)
    (h : ∀ y dx, H y = none → H dx = none → dx ≠ y → sp (.ref y :: vs) (upd (upd H dx (.own y)) y (.ins C dx [])) (fun v H2 => v = .non ∧ Q (.ref y) H2) E) :
    wpAny (model X.prog X.w) X.A (call (.ref C) us) (EP X pins σ Q) X.xe s := by
  have hq := h (s.heap.objs.size + 1) s.heap.objs.size (I.hok.fresh (Nat.le_succ _)) (I.hok.fresh (Nat.le_refl _)) (Nat.ne_of_lt (Nat.lt_succ_self _))
  have J := Inv.made (C := C) I
  have rs : Vals (V.ref (s.heap.objs.size + 1) :: vs) (Value.ref (s.heap.objs.size + 1) :: us) := .cons rfl r
  have hl : (Value.ref (s.heap.objs.size + 1) :: us ++ []).length = ps.length := by
    rw [List.append_nil, ← rs.length]
    exact F.len _ _ _ _ hq
  have hb' := hb _ (Value.ref (s.heap.objs.size + 1) :: us) J.kIn hl
  rw [List.append_nil] at hb'
  refine wpAny_call (make_map (f := f) I.kIn M.makes M.init (beq_iff_eq.mp M.fn) (codeAny_mono (F.run _ X.stack _ _ ⟨Value.ref (s.heap.objs.size + 1) :: us, []⟩ (Value.ref (s.heap.objs.size + 1) :: us) _ _ E (hr.make C us [])
    (J.env0.make C us []) hb' rs hq) fun out s' w => ?_))
  cases out with
  | error e => exact hx pins _ _ e s' J w
  | ok fl =>
    cases fl with
    | ret u =>
      obtain ⟨v, H', I3, rv, ev, q3⟩ := J.after w
      subst ev
      exact ⟨rv, ⟨V.ref (s.heap.objs.size + 1), H', I3, rfl, q3⟩⟩
    | next => exact w.elim
    | brk => exact w.elim
    | cont => exact w.elim
theorem pe_makeS {E : L2.St → XK} (M : Mk X.K C f) (F : FnOk X.prog X.w X.K X.mg X.base CX k f fd ps sp) (hr : Room (k + 1) X.A) (hg : Gl X x) (hm : X.mg x = some (.ref C)) (hb : Binds X.K fd ps []) (hx : ∀ σ, PassesAt CX X σ (E σ))
    (ha : PA X (e :: es) t) (hdb : (x == ("__debug__" : Str)) = false := by decide) (he : starEach (e :: es) X.env = (false, eval e X.env) :: starEach es X.env := by rfl) (hpl : (backTo pos (starEach es X.env)).any (·.1) = false := by rfl) :
    PE X (.Call (.Name x p) (e :: es) [] pos) (tMakeS C sp E t) := by
  refine ⟨fun pins s σ H Q I h => wpAny_Call_Name_kw (ld_glob I hg hm ?_ hdb)⟩
  refine PySem.W.callWith_K (h₀ := X.base) I.ok.mod.kin M.kp (thn (ha.run pos pins s σ H _ I h) fun us s1 hh => ?_) he hpl
  obtain ⟨vs, H1, I1, r, q⟩ := hh
  exact ⟨I1.kIn, run_makeS M F hr hb (hx σ) I1 r q⟩
def mMake (n : Nat) (C : Addr) (fs : FS) (mg : MA) : M := fun ρ Q X => mg ρ (fun as ρ1 => as.length + 1 = n ∧ (lentOf as).Nodup ∧ fs (.oi C [] :: as.map (AA.sv ρ1)) (fun r ρa => r = .v .non ∧ match ρa with
  | .oi c gs :: ρr => Q (.o (.oi c gs)) (giveBack as ρr ρ1)
  | .fz d :: ρr => Q (.v d) (giveBack as ρr ρ1)
  | .tr (.oi c gs) g :: ρr => Q (.t (.tr (.oi c gs) g)) (giveBack as ρr ρ1)
  | _ => False) (fun c d ρa => X c d (giveBack as ρa.tail ρ1))) X
theorem gb_cons {as : List AA} {s s0 : SV} {ρr : DE} (hl : ∀ j, j ∈ lentOf as → j < ρ.length) : giveBack (.ln ρ.length :: as) (s0 :: ρr) (ρ ++ [s]) = giveBack as ρr ρ ++ [s0] := by
  show (giveBack as ρr (ρ ++ [s])).set ρ.length s0 = giveBack as ρr ρ ++ [s0]
  rw [gb_snoc hl, List.set_append_right _ _ (by rw [gb_length]; exact Nat.le_refl _), gb_length, Nat.sub_self]
  rfl
theorem ts_make {n : Nat} {Q : VK} (h : tS K fx W (mMake n C fs mg) σ H Q) : tMakeS C (spF K n fs) (WE W) (tSA K fx W mg) σ H Q := by
  obtain ⟨F, G, ρ, Q0, X0, R, h, q, x⟩ := h
  exact ⟨F, G, ρ, _, X0, R, h, fun as ρ1 h1 F1 H1 vs s1 R1 k1 y dx hy hdx hne => by
    have R2 := R1.snoc (C := C) hy hdx hne
    have hlt : ∀ j, j ∈ lentOf as → j < ρ1.length := fun j hj => by rw [R1.len]; exact aa_lt k1 hj
    have fxl : ∀ z, z ∈ fx → z.1 < σ.length := fun z hz => (List.getElem?_eq_some_iff.mp (R1.fix z hz)).1
    have ka : AaOk K F1 (ρ1 ++ [.oi C []]) (σ ++ [some (V.ref y)]) (.ln ρ1.length :: as) (V.ref y :: vs) := ⟨by rw [R1.len]; exact snoc_last, k1.snoc⟩
    have hn : (lentOf (.ln ρ1.length :: as)).Nodup := by
      unfold lentOf
      exact List.nodup_cons.mpr ⟨fun z => Nat.lt_irrefl _ (hlt _ z), h1.2.1⟩
    have e1 : (AA.ln ρ1.length :: as).map (AA.sv (ρ1 ++ [.oi C []])) = .oi C [] :: as.map (AA.sv ρ1) := by
      rw [List.map_cons, sv_snoc hlt]
      have : AA.sv (ρ1 ++ [.oi C []]) (.ln ρ1.length) = .oi C [] := by
        show (match (ρ1 ++ [SV.oi C []])[ρ1.length]? with | some s => s | none => SV.no) = SV.oi C []
        rw [snoc_last]
      rw [this]
    obtain ⟨G', sg, Ra, hG⟩ := R2.callIn ka hn
    rw [e1] at Ra
    refine ⟨by rw [List.length_cons, ← aa_len k1]; exact h1.1, F1, G', _, _, _, Ra, h1.2.2, fun r ρa hr F2 H2 v sf R3 k3 => ?_, fun c d ρa hx F2 H2 v dx' sf R3 hd dd hf hg => ?_⟩
    · obtain ⟨rfl, hr⟩ := hr
      have k3' : Dat K F2 v .non := k3
      cases k3'
      refine ⟨rfl, ?_⟩
      obtain ⟨R4, _⟩ := R2.callOut ka sg Ra.gh hG sf R3
      cases ρa with
      | nil => exact hr.elim
      | cons s0 ρr =>
        rw [gb_cons hlt] at R4
        obtain ⟨R5, u1, u2, u3⟩ := R4.unsnoc fxl
        cases s0 with
        | no => exact hr.elim
        | ow _ => exact hr.elim
        | od _ => exact hr.elim
        | tr s1 g =>
          cases s1 <;> first
            | exact hr.elim
            | exact q _ _ hr F2 H2 _ (s1.trans sf) R5 (u3 _ _ rfl)
        | fz d => exact q _ _ hr F2 H2 _ (s1.trans sf) R5 (u2 d rfl)
        | oi c gs => exact q _ _ hr F2 H2 _ (s1.trans sf) R5 (u1 rfl)
    · obtain ⟨R4, _⟩ := R2.callOut ka sg Ra.gh hG sf R3
      cases ρa with
      | nil => have := R3.len; simp at this
      | cons s0 ρr =>
        rw [gb_cons hlt] at R4
        obtain ⟨R5, _, _, _⟩ := R4.unsnoc fxl
        exact x _ _ _ hx F2 H2 v dx' (s1.trans sf) R5 hd dd hf (sg.free hg), x⟩
theorem es_make (M : Mk X.K C f) (Fo : FnD X.prog X.w X.K X.mg X.base k f fd ps fs) (hr : Room (k + 1) X.A) (hm : X.mg x = some (.ref C)) (hb : Binds X.K fd ps []) (tk : Takes X W) (ha : EA X fx W (e :: es) mg)
    (hg : Gl X x := by rfl) (hdb : (x == ("__debug__" : Str)) = false := by decide) (he : starEach (e :: es) X.env = (false, eval e X.env) :: starEach es X.env := by rfl) (hpl : (backTo pos (starEach es X.env)).any (·.1) = false := by rfl) :
    ES X fx W (.Call (.Name x p) (e :: es) [] pos) (mMake ps.length C fs mg) :=
  pe_imp (pe_makeS M Fo hr hg hm hb (fun σ => passAt tk σ) ha hdb he hpl) fun _ _ _ h => ts_make h
end
/-! ### self.f = e -/
def putFD (f : Str) (d : D) : List (Str × D) → List (Str × D)
  | [] => [(f, d)]
  | (g, x) :: r => if g = f then (g, d) :: r else (g, x) :: putFD f d r
theorem DatF.put {f : Str} (hd : Dat K F v d) : ∀ {vs : List (Str × V)} {ds : List (Str × D)}, DatF K F vs ds → DatF K F (putF f v vs) (putFD f d ds)
  | _, _, .nil => .cons hd .nil
  | _, _, .cons (f := g) h t => by
    unfold putF putFD
    by_cases e : g = f
    · rw [if_pos e, if_pos e]; exact .cons hd t
    · rw [if_neg e, if_neg e]; exact .cons h (DatF.put hd t)
theorem DatF.length : ∀ {vs : List (Str × V)} {ds : List (Str × D)}, DatF K F vs ds → vs.length = ds.length
  | _, _, .nil => rfl
  | _, _, .cons _ t => by rw [List.length_cons, List.length_cons, t.length]
def sFldSet (C : Addr) (j : Nat) (f : Str) (m : M) : MS := fun ρ E => m ρ (fun r ρ1 => onC (r.cap ρ1) fun d ρ2 => match ρ2[j]? with
  | some (.oi c fs) => c = C ∧ fs.length < 1000 ∧ E.nx (ρ2.set j (.oi c (putFD f d fs)))
  | _ => False) E.ex
theorem ss_fld {C : Addr} (j : Nat) {x f : Str} {p1 p2 : Pos} (hc : Cls X.K C) (hn : NoAttr X.K C f) (he : ES X fx W e m)
    (hN : X.N[j]? = some x := by rfl) (hv : Vis X.env.scope x := by first | exact Or.inl rfl | exact Or.inr (Or.inl rfl) | exact Or.inr (Or.inr rfl)) (hd : (x == ("__debug__" : Str)) = false := by decide) (hcd : (x == ("__classdict__" : Str)) = false := by decide)
    (hs : swapsWith e (some (.Attribute (.Name x p1) f p2)) pos.line X.env = pure false := by rfl) : SS X fx W (.Assign [.Attribute (.Name x p1) f p2] e pos) (sFldSet C j f m) :=
  ps_imp (ps_fld (pe_var hN hv hd hcd) he hs) fun D σ H ⟨F, G, ρ, E0, R, h, k⟩ => by
    refine ⟨F, G, ρ, _, _, R, h, fun r ρ1 h1 F1 H1 v1 s1 R1 k1 => ?_, k.ex σ⟩
    obtain ⟨d, ρ2, e1, h1⟩ := onC_some h1
    obtain ⟨F2, s2, R2, k2⟩ := k1.cap R1 e1
    split at h1
    · rename_i c fs ej
      obtain ⟨rfl, hl, h1⟩ := h1
      obtain ⟨a, o, g1, g2, g3, g4, g5⟩ := R2.sl j _ ej
      cases o <;> first | exact g5.elim | skip
      obtain ⟨rfl, g5⟩ := g5
      exact ⟨.ref a, g1, a, _, _, _, rfl, g2, hc, hn, by rw [g5.length]; exact hl, k.nx _ h1 F2 _ σ (s1.trans s2) (R2.wr ej rfl g1 rfl ⟨rfl, g5.put k2⟩)⟩
    · exact h1.elim
/-! ### d.get(k, x), d.get(k) -/
def fGet1 : F2 := fun d e Q => match d, e.key with
  | .dic kvs, some k => Q (.v ((valD kvs k).getD .non))
  | _, _ => False
def isDic : D → Prop
  | .dic _ => True
  | _ => False
def mGet1 (mo ma : M) : M := fun ρ Q X => mo ρ (fun r ρ1 => onD (r.at ρ1) fun d0 => isDic d0 ∧ ma ρ1 (fun r2 ρ2 => onD (r.keep.at ρ2) fun d1 => onD (r2.at ρ2) fun d2 => fGet1 d1 d2 fun r => Q r ρ2) X) X
def mGet2 (mo ma mb : M) : M := fun ρ Q X => mo ρ (fun r ρ1 => onD (r.at ρ1) fun d0 => isDic d0 ∧ ma ρ1 (fun r2 ρ2 => mb ρ2 (fun r3 ρ3 => onC (r3.cap ρ3) fun d3 ρ4 => onD (r.keep.at ρ4) fun d1 => onD (r2.keep.at ρ4) fun d2 => match d1, d2.key with
  | .dic kvs, some k => Q (.v ((valD kvs k).getD d3)) ρ4
  | _, _ => False) X) X) X
theorem DatK.getD {vs : List (Key × V)} {ds : List (Key × D)} {k : Key} (h : DatK K F vs ds) (hv : Dat K F v d) : Dat K F ((valV vs k).getD v) ((valD ds k).getD d) := by
  cases e : valD ds k with
  | none =>
    rw [← valD_V, h.noval e]
    exact hv
  | some x =>
    obtain ⟨w, h1, h2⟩ := h.val e
    rw [← valD_V, h1]
    exact h2
theorem es_get2 {apos cpos : Pos} (hu : X.A.units + 1 < cLine) (ho : ES X fx W o mo) (ha : ES X fx W a ma) (hb : ES X fx W b mb) (m : M2 X o "get" apos a b cpos) : ES X fx W (.Call (.Attribute o "get" apos) [a, b] [] cpos) (mGet2 mo ma mb) :=
  pe_imp (pe_dget2 hu ho ha hb m) fun σ H Q ⟨F, G, ρ, Q0, X0, R, h, q, x⟩ => by
    refine ⟨F, G, ρ, _, X0, R, h, fun r1 ρ1 h1 F1 H1 v1 s1 R1 k1 => ?_, x⟩
    obtain ⟨d0, e0, hd0, h1⟩ := onD_some h1
    cases d0 <;> first | exact hd0.elim | skip
    obtain ⟨a0, vs0, rfl, ha0, _⟩ := (k1.top R1 e0).dic_inv R1
    refine ⟨a0, rfl, .inl ⟨vs0, ha0⟩, ?_⟩
    obtain ⟨F2, s2, R2, k2⟩ := k1.keep R1
    refine ⟨F2, G, ρ1, _, X0, R2, h1, fun r2 ρ2 h2 F3 H3 v2 s3 R3 k3 => ?_, x.mono (s1.trans s2)⟩
    obtain ⟨F4, s4, R4, k4⟩ := k3.keep R3
    refine ⟨F4, G, ρ2, _, X0, R4, h2, fun r3 ρ3 h3 F5 H5 v3 s5 R5 k5 => ?_, x.mono (((s1.trans s2).trans s3).trans s4)⟩
    obtain ⟨d3, ρ4, e3, h3⟩ := onC_some h3
    obtain ⟨F6, s6, R6, k6⟩ := k5.cap R5 e3
    obtain ⟨d1, e1, h3⟩ := onD_some h3
    obtain ⟨d2, e2, h3⟩ := onD_some h3
    cases d1 <;> first | exact h3.elim | skip
    rename_i kvs
    cases hk : d2.key with
    | none =>
      rw [hk] at h3
      exact h3.elim
    | some kk =>
      rw [hk] at h3
      have t1 := RvOk.top R6 (k2 F6 H5 ρ4 (((s3.trans s4).trans s5).trans s6)) e1
      have t2 := RvOk.top R6 (k4 F6 H5 ρ4 (s5.trans s6)) e2
      obtain ⟨a1, ws, q1, q2, q3⟩ := t1.dic_inv R6
      cases q1
      rw [t2.key hk]
      exact ⟨_, .inl ⟨_, _, q2, rfl, rfl⟩, q _ _ h3 F6 H5 _ (((((s1.trans s2).trans s3).trans s4).trans s5).trans s6) R6 (q3.getD k6)⟩
end
end BB

namespace BB
open PySem PySem.Spec PyProof.Rows L2

/-! ### a def by its body -/
def fxM : Nat → List Bool → (Nat → Addr) → List (Nat × Addr)
  | _, [], _ => []
  | i, true :: ms, a => (i, a i) :: fxM (i + 1) ms a
  | i, false :: ms, a => fxM (i + 1) ms a
def keepM : List Bool → DE → DE
  | [], _ => []
  | true :: ms, s :: ρ => s :: keepM ms ρ
  | false :: ms, _ :: ρ => .no :: keepM ms ρ
  | _ :: ms, [] => .no :: keepM ms []
def maskOk : List Bool → DE → Prop
  | [], [] => True
  | b :: ms, s :: ρ => s.lnd = b ∧ maskOk ms ρ
  | _, _ => False
def retM (mask : List Bool) (r : RV) (ρ : DE) (k : RV → DE → Prop) : Prop := match r with
  | .v d => k (.v d) (keepM mask ρ)
  | .o s => k (.o s) (keepM mask ρ)
  | .t s => k (.t s) (keepM mask ρ)
  | .gr _ _ => False
  | .sl i => match mask[i]? with
    | some true => False
    | _ => match ρ[i]? with
      | some s => s.own = true ∧ k (.o s) (keepM mask ρ)
      | none => False
def mEnd (mask : List Bool) (Q : MQ) (Xx : MX) : ME := ⟨fun ρ => Q (.v .non) (keepM mask ρ), fun r ρ => retM mask r ρ Q, fun _ => False, fun _ => False, fun c d ρ => Xx c d (keepM mask ρ)⟩
section
variable {K : PySem.W.Frag} {F F' G G' H H' : Hp} {fx : List (Nat × Addr)} {ρ ρ' : DE} {σ σ' : L2.St}
theorem maskOk.len : ∀ {mask : List Bool} {ρ : DE}, maskOk mask ρ → ρ.length = mask.length
  | [], [], _ => rfl
  | _ :: ms, _ :: ρ, h => by rw [List.length_cons, List.length_cons, maskOk.len h.2]
  | [], _ :: _, h => h.elim
  | _ :: _, [], h => h.elim
theorem maskOk.at : ∀ {mask : List Bool} {ρ : DE} {i : Nat} {s : SV}, maskOk mask ρ → ρ[i]? = some s → mask[i]? = some s.lnd
  | [], [], i, s, _, e => by simp at e
  | b :: ms, x :: ρ, 0, s, h, e => by
    simp at e
    subst e
    show some b = some x.lnd
    rw [h.1]
  | b :: ms, x :: ρ, i + 1, s, h, e => by
    have := maskOk.at (i := i) (s := s) h.2 (by simpa using e)
    simpa using this
  | [], _ :: _, _, _, h, _ => h.elim
  | _ :: _, [], _, _, h, _ => h.elim
theorem keepM_len : ∀ (mask : List Bool) (ρ : DE), (keepM mask ρ).length = mask.length
  | [], _ => by unfold keepM; rfl
  | true :: ms, s :: ρ => by unfold keepM; rw [List.length_cons, List.length_cons, keepM_len ms ρ]
  | false :: ms, s :: ρ => by unfold keepM; rw [List.length_cons, List.length_cons, keepM_len ms ρ]
  | true :: ms, [] => by unfold keepM; rw [List.length_cons, List.length_cons, keepM_len ms []]
  | false :: ms, [] => by unfold keepM; rw [List.length_cons, List.length_cons, keepM_len ms []]
theorem keepM_at : ∀ {mask : List Bool} {ρ : DE} {i : Nat} {s : SV}, (keepM mask ρ)[i]? = some s → s = .no ∨ (mask[i]? = some true ∧ ρ[i]? = some s)
  | [], _, i, s, h => by unfold keepM at h; simp at h
  | true :: ms, x :: ρ, 0, s, h => by unfold keepM at h; simp at h; subst h; exact .inr ⟨rfl, rfl⟩
  | false :: ms, x :: ρ, 0, s, h => by unfold keepM at h; simp at h; exact .inl h.symm
  | true :: ms, [], 0, s, h => by unfold keepM at h; simp at h; exact .inl h.symm
  | false :: ms, [], 0, s, h => by unfold keepM at h; simp at h; exact .inl h.symm
  | true :: ms, x :: ρ, i + 1, s, h => by
    unfold keepM at h
    rcases keepM_at (mask := ms) (ρ := ρ) (i := i) (s := s) (by simpa using h) with z | ⟨z1, z2⟩
    · exact .inl z
    · exact .inr ⟨by simpa using z1, by simpa using z2⟩
  | false :: ms, x :: ρ, i + 1, s, h => by
    unfold keepM at h
    rcases keepM_at (mask := ms) (ρ := ρ) (i := i) (s := s) (by simpa using h) with z | ⟨z1, z2⟩
    · exact .inl z
    · exact .inr ⟨by simpa using z1, by simpa using z2⟩
  | true :: ms, [], i + 1, s, h => by
    unfold keepM at h
    rcases keepM_at (mask := ms) (ρ := []) (i := i) (s := s) (by simpa using h) with z | ⟨z1, z2⟩
    · exact .inl z
    · simp at z2
  | false :: ms, [], i + 1, s, h => by
    unfold keepM at h
    rcases keepM_at (mask := ms) (ρ := []) (i := i) (s := s) (by simpa using h) with z | ⟨z1, z2⟩
    · exact .inl z
    · simp at z2
theorem fxM_mem : ∀ {mask : List Bool} {i : Nat} {a : Nat → Addr} {p : Nat × Addr}, p ∈ fxM i mask a → ∃ j, p.1 = i + j ∧ mask[j]? = some true ∧ p.2 = a p.1
  | [], _, _, _, h => by unfold fxM at h; cases h
  | true :: ms, i, a, p, h => by
    unfold fxM at h
    rcases List.mem_cons.mp h with rfl | h
    · exact ⟨0, rfl, rfl, rfl⟩
    · obtain ⟨j, h1, h2, h3⟩ := fxM_mem h
      exact ⟨j + 1, by omega, by simpa using h2, h3⟩
  | false :: ms, i, a, p, h => by
    unfold fxM at h
    obtain ⟨j, h1, h2, h3⟩ := fxM_mem h
    exact ⟨j + 1, by omega, by simpa using h2, h3⟩
theorem fxM_of : ∀ {mask : List Bool} {i j : Nat} {a : Nat → Addr}, mask[j]? = some true → (i + j, a (i + j)) ∈ fxM i mask a
  | [], _, j, _, h => by simp at h
  | true :: ms, i, 0, a, h => by unfold fxM; exact List.mem_cons_self
  | false :: ms, i, 0, a, h => by simp at h
  | true :: ms, i, j + 1, a, h => by
    unfold fxM
    have := fxM_of (mask := ms) (i := i + 1) (j := j) (a := a) (by simpa using h)
    rw [show i + 1 + j = i + (j + 1) by omega] at this
    exact List.mem_cons_of_mem _ this
  | false :: ms, i, j + 1, a, h => by
    unfold fxM
    have := fxM_of (mask := ms) (i := i + 1) (j := j) (a := a) (by simpa using h)
    rw [show i + 1 + j = i + (j + 1) by omega] at this
    exact this
/-- the arguments' slots become the body's -/
theorem Rep.enter {vs : List V} {mask : List Bool} (R : Rep K F G H [] ρ (vs.map some)) (hm : maskOk mask ρ) (n : Nat) : ∃ a : Nat → Addr, (∀ i v, mask[i]? = some true → vs[i]? = some v → v = V.ref (a i)) ∧ Rep K F G H (fxM 0 mask a) (ρ ++ List.replicate n .no) (vs.map some ++ List.replicate n none) := by
  refine ⟨fun i => match vs[i]? with
    | some (V.ref p) => p
    | _ => 0, fun i v h1 h2 => ?_, ?_⟩
  · have hi : i < ρ.length := by
      have := (List.getElem?_eq_some_iff.mp h1).1
      rw [hm.len]; exact this
    have e : ρ[i]? = some ρ[i] := List.getElem?_eq_getElem hi
    have ho := hm.at e
    rw [h1] at ho
    obtain ⟨p, q⟩ := (R.sl i _ e).lnd (Option.some.inj ho).symm
    rw [List.getElem?_map, h2] at q
    cases q
    show V.ref p = V.ref (match vs[i]? with
      | some (V.ref p) => p
      | _ => 0)
    rw [h2]
  · have far : ∀ i b, Owns (ρ ++ List.replicate n .no) (vs.map some ++ List.replicate n none) i b → Owns ρ (vs.map some) i b := fun i b ⟨s, q, z⟩ => by
      by_cases hi : i < ρ.length
      · rw [List.getElem?_append_left hi] at q
        rw [List.getElem?_append_left (by rw [← R.len]; exact hi)] at z
        exact ⟨s, q, z⟩
      · rw [List.getElem?_append_right (by omega), List.getElem?_replicate] at q
        split at q
        · cases q; exact z.elim
        · cases q
    refine ⟨R.fh, R.gh, R.fg, by rw [List.length_append, List.length_append, R.len, List.length_replicate, List.length_replicate], fun i s q => ?_, fun i j b q1 q2 => R.nd i j b (far i b q1) (far j b q2), fun p hp => ?_⟩
    · by_cases hi : i < ρ.length
      · rw [List.getElem?_append_left hi] at q
        rw [List.getElem?_append_left (by rw [← R.len]; exact hi)]
        exact R.sl i s q
      · rw [List.getElem?_append_right (by omega), List.getElem?_replicate] at q
        split at q
        · cases q; trivial
        · cases q
    · obtain ⟨j, h1, h2, h3⟩ := fxM_mem hp
      rw [Nat.zero_add] at h1
      subst h1
      have hi : p.1 < ρ.length := by
        have := (List.getElem?_eq_some_iff.mp h2).1
        rw [hm.len]; exact this
      have e : ρ[p.1]? = some ρ[p.1] := List.getElem?_eq_getElem hi
      have ho := hm.at e
      rw [h2] at ho
      obtain ⟨q, q1⟩ := (R.sl p.1 _ e).lnd (Option.some.inj ho).symm
      rw [List.getElem?_append_left (by rw [← R.len]; exact hi), q1, h3]
      rw [List.getElem?_map] at q1
      cases hv : vs[p.1]? with
      | none => rw [hv] at q1; cases q1
      | some v =>
        rw [hv] at q1
        cases q1
        simp only
/-- and back: what is not lent is forgotten -/
theorem Rep.exit {vs : List V} {mask : List Bool} {a : Nat → Addr} (R : Rep K F G H (fxM 0 mask a) ρ σ) (hl : vs.length = mask.length) (ha : ∀ i v, mask[i]? = some true → vs[i]? = some v → v = V.ref (a i)) :
    Rep K F G H [] (keepM mask ρ) (vs.map some) ∧ ∀ i b, Owns (keepM mask ρ) (vs.map some) i b → mask[i]? = some true ∧ Owns ρ σ i b := by
  have same : ∀ i, mask[i]? = some true → (vs.map some)[i]? = σ[i]? := fun i hi => by
    have h1 := R.fix _ (fxM_of (i := 0) (j := i) (a := a) hi)
    simp only [Nat.zero_add] at h1
    have hlt : i < vs.length := by rw [hl]; exact (List.getElem?_eq_some_iff.mp hi).1
    have e : vs[i]? = some vs[i] := List.getElem?_eq_getElem hlt
    rw [h1, List.getElem?_map, e, ha i _ hi e]; rfl
  have back : ∀ i b, Owns (keepM mask ρ) (vs.map some) i b → mask[i]? = some true ∧ Owns ρ σ i b := fun i b ⟨s, q, z⟩ => by
    rcases keepM_at q with rfl | ⟨h1, h2⟩
    · exact z.elim
    · exact ⟨h1, s, h2, by rw [← same i h1]; exact z⟩
  refine ⟨⟨R.fh, R.gh, R.fg, by rw [keepM_len, List.length_map, hl], fun i s q => ?_, fun i j b q1 q2 => R.nd i j b (back i b q1).2 (back j b q2).2, fun p hp => by cases hp⟩, back⟩
  rcases keepM_at q with rfl | ⟨h1, h2⟩
  · trivial
  · rw [same i h1]
    exact R.sl i s h2
end
section
variable {P : Program} {w : World} {K : PySem.W.Frag} {mg : Str → Option Value} {base : Heap} {x qual : Str} {st : Stmt} {f : Addr} {fd : FuncData} {N ps : List Str} {k : Nat} {fs : FS} {ms : MS}
theorem tk_cx {A : Around} {outer : List Env} {s : Shared} {H : Hp} {E : XK} {cdv : Value} {sc : Scope} : Takes (cxOf (L2.CX P w) P w K mg base N qual sc f cdv A outer s H E) (WF E) := takes_of rfl rfl rfl rfl
theorem fnd_body (S : FnScope N ps (defScope st)) (mask : List Bool) (hm : mask.length = ps.length) {cdv : Value} {A : Around} {outer : List Env} {s : Shared} {H : Hp} {vs : List V} {Q : VK} {E : XK}
    (hb : ∀ a : Nat → Addr, SB (cxOf (L2.CX P w) P w K mg base N qual (defScope st) f cdv A outer s H E) (fxM 0 mask a) (WF E) (defBody st) ms)
    (hd : ∀ ρ Q Xx, fs ρ Q Xx → maskOk mask ρ ∧ ms (ρ ++ List.replicate (N.length - ps.length) .no) (mEnd mask Q Xx)) (h : spF K ps.length fs vs H Q E) :
    ∃ t, PSs (cxOf (L2.CX P w) P w K mg base N qual (defScope st) f cdv A outer s H E) (defBody st) t ∧ t { nx := fun _ H' => Q .non H', rt := Q } (L2.start N vs) H := by
  obtain ⟨hl, F, G, ρ, Q0, X0, R, hf, q, xk⟩ := h
  obtain ⟨h1, h2⟩ := hd _ _ _ hf
  obtain ⟨a, ha, R1⟩ := R.enter h1 (N.length - ps.length)
  have hst : L2.start N vs = vs.map some ++ List.replicate (N.length - ps.length) none := by unfold L2.start; rw [hl]
  refine ⟨_, hb a, F, G, _, mEnd mask Q0 X0, by rw [hst]; exact R1, h2, ⟨fun ρ' z F' H' σ' sm R' => ?_, fun r ρ' z F' H' σ' v sm R' kv => ?_, fun ρ' z => z.elim, fun ρ' z => z.elim, fun σ' c d ρ' z F' H' v dx sm R' hx hdt => ?_⟩⟩
  · obtain ⟨R2, _⟩ := R'.exit (by rw [hl, hm]) ha
    exact q _ _ z F' H' .non sm R2 .non
  · obtain ⟨R2, bk⟩ := R'.exit (by rw [hl, hm]) ha
    cases r with
    | v d => exact q _ _ z F' H' v sm R2 kv
    | o sv =>
      obtain ⟨g1, p, o, rfl, g2, g3, g4, g5, g6⟩ := kv
      exact q _ _ z F' H' _ sm R2 ⟨g1, p, o, rfl, g2, g3, g4, g5, fun i hi => g6 i (bk i p hi).2⟩
    | gr _ _ => exact z.elim
    | t sv =>
      obtain ⟨g1, g2⟩ := kv
      exact q _ _ z F' H' _ sm R2 ⟨g1, fun p hp i hi => g2 p hp i (bk i p hi).2⟩
    | sl i =>
      have kv' : σ'[i]? = some (some v) := kv
      have z' : (match mask[i]? with
        | some true => False
        | _ => match ρ'[i]? with
          | some s => s.own = true ∧ Q0 (.o s) (keepM mask ρ')
          | none => False) := z
      have hmi : mask[i]? ≠ some true := fun e => by rw [e] at z'; exact z'
      have z2 : (match ρ'[i]? with
          | some s => s.own = true ∧ Q0 (.o s) (keepM mask ρ')
          | none => False) := by
        split at z'
        · exact z'.elim
        · exact z'
      cases e : ρ'[i]? with
      | none => rw [e] at z2; exact z2.elim
      | some sv =>
        rw [e] at z2
        obtain ⟨p, o, g1, g2, g3, g4, g5⟩ := (R'.sl i sv e).own z2.1
        rw [kv'] at g1
        cases g1
        refine q _ _ z2.2 F' H' _ sm R2 ⟨z2.1, p, o, rfl, g2, g3, g4, g5, fun j hj => ?_⟩
        obtain ⟨b1, b2⟩ := bk j p hj
        have := R'.nd j i p b2 (.of e z2.1 kv')
        subst this
        exact hmi b1
  · obtain ⟨R2, _⟩ := R'.exit (by rw [hl, hm]) ha
    exact xk _ _ _ z F' H' v dx sm R2 hx hdt
theorem fnd_of (Fu : Fun K x qual st f fd) (S : FnScope N ps (defScope st)) (mask : List Bool) (hm : mask.length = ps.length)
    (hb : ∀ (cdv : Value) (A : Around) (outer : List Env) (s : Shared) (H : Hp) (E : XK) (a : Nat → Addr), Room k (A.deeper (envOfC qual (defScope st) s.heap.objs.size f cdv)) →
      SB (cxOf (L2.CX P w) P w K mg base N qual (defScope st) f cdv A outer s H E) (fxM 0 mask a) (WF E) (defBody st) ms)
    (hd : ∀ ρ Q Xx, fs ρ Q Xx → maskOk mask ρ ∧ ms (ρ ++ List.replicate (N.length - ps.length) .no) (mEnd mask Q Xx)) : FnD P w K mg base (k + 1) f fd ps fs :=
  Fu.okX S (fun vs H Q E h => h.1) fun cdv A outer s H vs Q E hr h => fnd_body S mask hm (fun a => hb cdv A outer s H E a hr) hd h
end
end BB

namespace BB
open PySem PySem.Spec PyProof.Rows L2
section
variable {X : Cx} {K : PySem.W.Frag} {F F' G G' H H' : Hp} {fx : List (Nat × Addr)} {W : WX} {ρ ρ' ρ1 ρ2 : DE} {σ σ' : L2.St} {pos pos' : Pos} {e a b c o : Expr} {es : List Expr} {m ma mb mc mo : M} {ml : ML} {v : V} {d : D}
/-! ### zip -/
def zipD : List D → List D → List D
  | x :: xs, y :: ys => .tup [x, y] :: zipD xs ys
  | _, _ => []
theorem zipD_length : ∀ xs ys : List D, (zipD xs ys).length = min xs.length ys.length
  | [], _ => by unfold zipD; simp
  | _ :: _, [] => by unfold zipD; simp
  | x :: xs, y :: ys => by unfold zipD; rw [List.length_cons, zipD_length xs ys, List.length_cons, List.length_cons]; omega
theorem zipD_get : ∀ (i : Nat) (xs ys : List D) (x y : D), xs[i]? = some x → ys[i]? = some y → (zipD xs ys)[i]? = some (.tup [x, y])
  | _, [], _, _, _, h, _ => by simp at h
  | _, _ :: _, [], _, _, _, h => by simp at h
  | 0, x :: xs, y :: ys, u, w, h, h' => by simp at h h'; subst h; subst h'; rfl
  | i + 1, x :: xs, y :: ys, u, w, h, h' => by
    show (zipD xs ys)[i]? = _
    exact zipD_get i xs ys u w (by simpa using h) (by simpa using h')
theorem itd_zip {p q : Addr} {vs ws : List V} {xs ys : List D} (h : F p = some (.lst vs)) (dv : DatL K F vs xs) (h' : F q = some (.lst ws)) (dw : DatL K F ws ys) : ItD K F G (Itz K p q) (zipD xs ys) where
  go := fun i H s _ hi => by
    rw [zipD_length] at hi
    obtain ⟨x, hx⟩ : ∃ d, xs[i]? = some d := ⟨xs[i]'(by omega), List.getElem?_eq_getElem (by omega)⟩
    obtain ⟨y, hy⟩ : ∃ d, ys[i]? = some d := ⟨ys[i]'(by omega), List.getElem?_eq_getElem (by omega)⟩
    obtain ⟨v, hv, _⟩ := dv.get hx
    obtain ⟨w, hw, _⟩ := dw.get hy
    exact ⟨vs, ws, v, w, SqL.of (s.lst h), SqL.of (s.lst h'), hv, hw⟩
  stop := fun H s _ => ⟨vs, ws, SqL.of (s.lst h), SqL.of (s.lst h'), by rw [dv.length, dw.length, zipD_length]; omega⟩
  yld := fun i H x H' s _ hi y => by
    obtain ⟨T, v, w, rfl, hT, rfl, hx, hy⟩ := y
    obtain ⟨d, hd, dd⟩ := dv.getv (hx vs (SqL.of (s.lst h)))
    obtain ⟨e, he, de⟩ := dw.getv (hy ws (SqL.of (s.lst h')))
    exact ⟨_, zipD_get i xs ys d e hd he, .inr ⟨T, _, rfl, hT, rfl, fun F' sf hF => .tup (.inl (.inl hF)) (.cons (dd.mono sf) (.cons (de.mono sf) .nil))⟩⟩
theorem itd_zipT {p q : Addr} {vs ws : List V} {xs ys : List D} (h : SqT K F p vs) (dv : DatL K F vs xs) (h' : SqT K F q ws) (dw : DatL K F ws ys) : ItD K F G (RZ.ItzT K p q) (zipD xs ys) where
  go := fun i H s _ hi => by
    rw [zipD_length] at hi
    obtain ⟨x, hx⟩ : ∃ d, xs[i]? = some d := ⟨xs[i]'(by omega), List.getElem?_eq_getElem (by omega)⟩
    obtain ⟨y, hy⟩ : ∃ d, ys[i]? = some d := ⟨ys[i]'(by omega), List.getElem?_eq_getElem (by omega)⟩
    obtain ⟨v, hv, _⟩ := dv.get hx
    obtain ⟨w, hw, _⟩ := dw.get hy
    exact ⟨vs, ws, v, w, s.sqT h, s.sqT h', hv, hw⟩
  stop := fun H s _ => ⟨vs, ws, s.sqT h, s.sqT h', by rw [dv.length, dw.length, zipD_length]; omega⟩
  yld := fun i H x H' s _ hi y => by
    obtain ⟨T, v, w, rfl, hT, rfl, hx, hy⟩ := y
    obtain ⟨d, hd, dd⟩ := dv.getv (hx vs (s.sqT h))
    obtain ⟨e, he, de⟩ := dw.getv (hy ws (s.sqT h'))
    exact ⟨_, zipD_get i xs ys d e hd he, .inr ⟨T, _, rfl, hT, rfl, fun F' sf hF => .tup (.inl (.inl hF)) (.cons (dd.mono sf) (.cons (de.mono sf) .nil))⟩⟩
def iZip2 (m : ML) : ML := fun ρ Q X => m ρ (fun ds ρ1 => match ds with
  | [.lst xs, .lst ys] => Q (zipD xs ys) ρ1
  | [.tup xs, .tup ys] => Q (zipD xs ys) ρ1
  | _ => False) X
theorem ei_zip {ml : ML} {elts : List Expr} {kk : Nat} {p tpos : Pos} (hm : X.mg "zip" = none) (h : EL X fx W [a, b] ml) (hg : Gl X "zip" := by rfl)
    (hs : starEach [a, b] X.env = (false, eval a X.env) :: starEach [b] X.env := by rfl) (hpl : (backTo pos (starEach [b] X.env)).any (·.1) = false := by rfl) :
    EI X fx W (.Tuple elts kk tpos) (.Call (.Name "zip" p) [a, b] [] pos) (iZip2 ml) := by
  refine pi_imp (RZ.pi_zipA hg hm h hs hpl) fun σ H Q ⟨F, G, ρ, Q0, X0, R, h, q, x⟩ => ⟨F, G, ρ, _, X0, R, h, fun ds ρ1 h1 F1 H1 vs s1 R1 k1 => ?_, x⟩
  split at h1
  · cases k1 with
    | cons z1 z2 =>
      cases z2 with
      | cons z2 z3 =>
        cases z3
        cases z1 with
        | lst y1 y2 =>
          cases z2 with
          | lst w1 w2 => exact ⟨_, _, _, _, rfl, .inl ⟨SqL.of (R1.fh.lst y1), SqL.of (R1.fh.lst w1), q _ _ h1 F1 G hp0 H1 _ s1 (Same.refl G) fz0 sd0 R1 (itd_zip y1 y2 w1 w2)⟩⟩
  · cases k1 with
    | cons z1 z2 =>
      cases z2 with
      | cons z2 z3 =>
        cases z3
        cases z1 with
        | tup y1 y2 =>
          cases z2 with
          | tup w1 w2 => exact ⟨_, _, _, _, rfl, .inr ⟨R1.fh.sqT y1, R1.fh.sqT w1, q _ _ h1 F1 G hp0 H1 _ s1 (Same.refl G) fz0 sd0 R1 (itd_zipT y1 y2 w1 w2)⟩⟩
  · exact h1.elim
/-! ### dict(xs) -/
def pairsOf : List D → Option (List (Key × D))
  | [] => some []
  | .tup [k, v] :: r => match k.key, pairsOf r with
    | some y, some kvs => some ((y, v) :: kvs)
    | _, _ => none
  | _ :: _ => none
def mergeD (kvs more : List (Key × D)) : List (Key × D) := more.foldl (fun acc kv => putD acc kv.1 kv.2) kvs
theorem DatK.merge : ∀ {more : List (Key × V)} {mored : List (Key × D)} {kvs : List (Key × V)} {kvd : List (Key × D)}, DatK K F kvs kvd → DatK K F more mored → DatK K F (mergeK kvs more) (mergeD kvd mored)
  | _, _, _, _, h, .nil => h
  | _, _, kvs, kvd, h, .cons (f := f) (v := v) (vs := vs) (d := d) (ds := ds) h1 t => by
    show DatK K F (mergeK (putK kvs f v) vs) (mergeD (putD kvd f d) ds)
    exact DatK.merge (h.put h1) t
theorem pairs_dat : ∀ {vs : List V} {xs : List D} {kvs : List (Key × D)}, SF F H → DatL K F vs xs → pairsOf xs = some kvs → ∃ (ps : List Addr) (kws : List (Key × V)), vs = ps.map V.ref ∧ Paired (fun p kv => SqT K H p [kV kv.1, kv.2]) ps kws ∧ DatK K F kws kvs
  | _, _, kvs, s, .nil, e => by
    cases e
    exact ⟨[], [], rfl, .nil, .nil⟩
  | _, _, kvs, s, .cons (d := d) (ds := ds) h t, e => by
    cases d <;> first | (cases e; done) | skip
    rename_i ys
    match ys, h, e with
    | [], _, e => cases e
    | [_], _, e => cases e
    | _ :: _ :: _ :: _, _, e => cases e
    | [k, w], h, e =>
      unfold pairsOf at e
      split at e
      · rename_i y kvs' hk hr
        cases e
        obtain ⟨ps, kws, rfl, hp, hd⟩ := pairs_dat s t hr
        cases h with
        | tup h1 h2 =>
          cases h2 with
          | cons u1 u2 =>
            cases u2 with
            | cons u2 u3 =>
              cases u3
              rename_i p _ _ vv
              have ek := (Top.dat (H := F) u1).key hk
              subst ek
              exact ⟨_ :: ps, (y, _) :: kws, rfl, .cons (s.sqT h1) hp, .cons u2 hd⟩
      · cases e
def fDict : F1 := fun d Q => match d with
  | .lst xs => match pairsOf xs with
    | some kvs => Q (.o (.od (mergeD [] kvs)))
    | none => False
  | _ => False
theorem snd_dict : Snd1 K (fun x H Q => ∃ (a : Addr) (ps : List Addr) (kvs : List (Key × V)), [x] = [V.ref a] ∧ SqL K H a (ps.map V.ref) ∧ Paired (fun p kv => SqT K H p [kV kv.1, kv.2]) ps kvs ∧ ∀ p, H p = none → Q (.ref p) (upd H p (.dK (mergeK [] kvs)))) fDict where
  ok := by
    intro F G H fx ρ σ x d Q0 Q R h1 hf q
    unfold fDict at hf
    split at hf
    · split at hf
      · rename_i kvs hn
        obtain ⟨a, vs, rfl, ha, da⟩ := h1.lst_inv R
        obtain ⟨ps, kws, rfl, hp, hd⟩ := pairs_dat R.fh da hn
        refine ⟨a, ps, kws, rfl, SqL.of ha, hp, fun p hp' => ?_⟩
        obtain ⟨R1, h1, h2, h3⟩ := R.new (o := .dK (mergeK [] kws)) hp'
        exact q _ hf F _ _ (Same.refl F) R1 ⟨rfl, p, _, rfl, upd_same, h1, h2, DatK.merge .nil hd, h3⟩
      · exact hf.elim
    · exact hf.elim
theorem es_dict {p : Pos} (hc : X.calm = true) (hm : X.mg "dict" = none) (ha : ES X fx W e ma) (hg : Gl X "dict" := by rfl) (he : starEach [e] X.env = (false, eval e X.env) :: starEach [] X.env := by rfl) : ES X fx W (.Call (.Name "dict" p) [e] [] pos) (mOp1 fDict ma) :=
  es_ty1 (call_dictP hc) snd_dict hm (by decide +kernel) ha hg (by decide) (by decide) he
end
end BB

namespace BB
open PySem PySem.Spec PyProof.Rows L2
theorem u64 {k : Nat} {A : Around} (r : Room k A) : A.units + 64 < cLine := by have := r.un; omega
theorem u65 {k : Nat} {A : Around} (r : Room k A) : A.units + 65 < cLine := by have := r.un; omega
theorem u1 {k : Nat} {A : Around} (r : Room k A) : A.units + 1 < cLine := by have := r.un; omega

/-! ### laws of the data's loops -/
/-- a for, by an invariant -/
theorem loopD_inv {g : MG} {mb : MS} {E : ME} {xs : List D} (J : Nat → DE → Prop) (n : Nat) {ρ : DE} (h0 : J n ρ) 
    (hs : ∀ i x ρ, xs[i]? = some x → J (n + i) ρ → ∀ kt : DE → Prop, (∀ ρ', J (n + i + 1) ρ' → kt ρ') → g x ρ fun ρ1 => mb ρ1 { nx := kt, ct := kt, bk := E.nx, rt := E.rt, ex := E.ex })
    (hd : ∀ ρ, J (n + xs.length) ρ → E.nx ρ) : loopD g mb xs ρ E := by
  induction xs generalizing n ρ with
  | nil => exact hd ρ h0
  | cons x xs ih =>
    refine hs 0 x ρ rfl h0 _ fun ρ' z => ih (n + 1) z (fun i y ρ2 hy hj kt hk => ?_) fun ρ2 hj => hd ρ2 ?_
    · have e : n + (i + 1) = n + 1 + i := by omega
      refine hs (i + 1) y ρ2 (by simpa using hy) (by rw [e]; exact hj) kt fun ρ' hj' => hk ρ' ?_
      rw [e] at hj'
      exact hj'
    · rw [List.length_cons, show n + (xs.length + 1) = n + 1 + xs.length by omega]
      exact hj
/-- a comprehension's clause, by an invariant -/
theorem lvl_inv {g : MG} {mt : MT} {vs : List Nat} {rest : MK} {xs acc : List D} {ρ : DE} {k : List D → DE → Prop} (J : Nat → List D → DE → Prop) (n : Nat) (h0 : J n acc (wipeD ρ vs)) (hw : ∀ ρ, wipeD (wipeD ρ vs) vs = wipeD ρ vs)
    (hs : ∀ i x acc ρ, xs[i]? = some x → J (n + i) acc ρ → ∀ kt : List D → DE → Prop, (∀ acc' ρ', J (n + i + 1) acc' (wipeD ρ' vs) → kt acc' ρ') →
      g x ρ fun ρ1 => mt ρ1 (fun b ρ2 => if b = true then rest acc ρ2 kt else kt acc ρ2) fun _ _ _ => False)
    (hd : ∀ acc ρ, J (n + xs.length) acc (wipeD ρ vs) → k acc ρ) : lvlD g mt vs rest xs acc ρ k := by
  induction xs generalizing n ρ acc with
  | nil => exact hd acc ρ h0
  | cons x xs ih =>
    show g x (wipeD ρ vs) fun ρ1 => mt ρ1 (fun b ρ2 => if b = true then rest acc ρ2 (fun acc' ρ3 => lvlD g mt vs rest xs acc' ρ3 k) else lvlD g mt vs rest xs acc ρ2 k) fun _ _ _ => False
    refine hs 0 x acc _ rfl h0 (fun acc' ρ3 => lvlD g mt vs rest xs acc' ρ3 k) fun acc' ρ' z => ih (n + 1) z (fun i y acc2 ρ2 hy hj kt hk => ?_) fun acc2 ρ2 hj => hd acc2 ρ2 ?_
    · have e : n + (i + 1) = n + 1 + i := by omega
      refine hs (i + 1) y acc2 ρ2 (by simpa using hy) (by rw [e]; exact hj) kt fun acc' ρ' hj' => hk acc' ρ' ?_
      rw [e] at hj'
      exact hj'
    · rw [List.length_cons, show n + (xs.length + 1) = n + 1 + xs.length by omega]
      exact hj
theorem wipeD_get2 {ρ : DE} {vs : List Nat} {i : Nat} (h : i ∈ vs) (hi : i < ρ.length) : (wipeD ρ vs)[i]? = some .no := by
  induction vs with
  | nil => cases h
  | cons v vs ih =>
    unfold wipeD
    by_cases e : v = i
    · subst e
      rw [List.getElem?_set_self (by rw [wipeD_length]; exact hi)]
    · rw [List.getElem?_set_ne e]
      rcases List.mem_cons.mp h with q | q
      · exact absurd q.symm e
      · exact ih q
theorem wipeD_out {ρ : DE} {vs : List Nat} {i : Nat} (h : i ∉ vs) : (wipeD ρ vs)[i]? = ρ[i]? := by
  induction vs with
  | nil => rfl
  | cons v vs ih =>
    unfold wipeD
    rw [List.getElem?_set_ne (fun e => h (by rw [e]; exact List.mem_cons_self)), ih fun q => h (List.mem_cons_of_mem _ q)]
theorem wipeD_wipeD (ρ : DE) (vs : List Nat) : wipeD (wipeD ρ vs) vs = wipeD ρ vs := by
  apply List.ext_getElem?
  intro i
  by_cases hi : i ∈ vs
  · by_cases hl : i < ρ.length
    · rw [wipeD_get2 hi (by rw [wipeD_length]; exact hl), wipeD_get2 hi hl]
    · rw [List.getElem?_eq_none (by rw [wipeD_length, wipeD_length]; omega), List.getElem?_eq_none (by rw [wipeD_length]; omega)]
  · rw [wipeD_out hi]
/-- a clause that makes one item of each, and leaves all else as it is -/
theorem lvl_map {g : MG} {mt : MT} {vs : List Nat} {rest : MK} {xs acc : List D} {ρ : DE} {k : List D → DE → Prop} (f : D → D) (hl : acc.length + xs.length ≤ sizeLine)
    (hs : ∀ x, x ∈ xs → ∀ acc', acc'.length < sizeLine → ∀ kt : List D → DE → Prop, (∀ ρ', wipeD ρ' vs = wipeD ρ vs → kt (acc' ++ [f x]) ρ') → g x (wipeD ρ vs) fun ρ1 => mt ρ1 (fun b ρ2 => if b = true then rest acc' ρ2 kt else kt acc' ρ2) fun _ _ _ => False)
    (hd : ∀ ρ', wipeD ρ' vs = wipeD ρ vs → k (acc ++ xs.map f) ρ') : lvlD g mt vs rest xs acc ρ k := by
  refine lvl_inv (J := fun i a ρ' => ρ' = wipeD ρ vs ∧ a = acc ++ (xs.take i).map f) 0 ⟨rfl, by simp⟩ (fun ρ => wipeD_wipeD ρ vs) (fun i x a ρ2 hx hj kt hk => ?_) fun a ρ2 hj => ?_
  · rw [Nat.zero_add] at hj hk
    obtain ⟨rfl, rfl⟩ := hj
    have hi := (List.getElem?_eq_some_iff.mp hx).1
    refine hs x (List.mem_of_getElem? hx) _ (by rw [List.length_append, List.length_map, List.length_take]; omega) kt fun ρ' hw => hk _ _ ⟨hw, ?_⟩
    rw [List.take_add_one, hx, List.map_append, ← List.append_assoc]
    rfl
  · rw [Nat.zero_add] at hj
    obtain ⟨h1, rfl⟩ := hj
    rw [List.take_length]
    exact hd _ h1
end BB
namespace BB
open PySem PySem.Spec PyProof.Rows L2
theorem unw {ρ ρ' : DE} {vs : List Nat} (h : wipeD ρ' vs = wipeD (wipeD ρ vs) vs) : unwipe ρ (wipeD ρ' vs) vs = ρ := by
  rw [h, wipeD_wipeD]
  apply List.ext_getElem?
  intro i
  have hl : ρ.length = (wipeD ρ vs).length := (wipeD_length vs).symm
  by_cases hi : i < ρ.length
  · have hlt : i < (unwipe ρ (wipeD ρ vs) vs).length := by rw [unwipe_length hl]; exact hi
    have e := List.getElem?_eq_getElem hlt
    rcases unwipe_get e with ⟨h1, h2⟩ | ⟨h1, h2⟩
    · rw [e, h2]
    · by_cases hv : i ∈ vs
      · have := h2 hv
        rw [List.getElem?_eq_none_iff] at this
        omega
      · rw [e, ← h1, wipeD_out hv]
  · rw [List.getElem?_eq_none (by rw [unwipe_length hl]; omega), List.getElem?_eq_none (by omega)]
end BB
namespace BB
open PySem PySem.Spec PyProof.Rows L2
/-- a clause that makes some items of each -/
theorem lvl_flatS {α : Type} {g : MG} {mt : MT} {vs : List Nat} {rest : MK} {k : List D → DE → Prop} {enc : α → D} (out : α → List D) {ρ : DE} {l : List α} {acc : List D} (hl : acc.length + (l.flatMap out).length ≤ sizeLine)
    (hs : ∀ x, x ∈ l → ∀ acc', acc'.length + (out x).length ≤ sizeLine → ∀ kt : List D → DE → Prop, (∀ ρ', wipeD ρ' vs = wipeD ρ vs → kt (acc' ++ out x) ρ') → g (enc x) (wipeD ρ vs) fun ρ1 => mt ρ1 (fun b ρ2 => if b = true then rest acc' ρ2 kt else kt acc' ρ2) fun _ _ _ => False)
    (hd : ∀ ρ', wipeD ρ' vs = wipeD ρ vs → k (acc ++ l.flatMap out) ρ') : lvlD g mt vs rest (l.map enc) acc ρ k := by
  have main : ∀ (l : List α) (acc : List D) (ρ1 : DE) (k : List D → DE → Prop), wipeD ρ1 vs = wipeD ρ vs → acc.length + (l.flatMap out).length ≤ sizeLine →
      (∀ x, x ∈ l → ∀ acc', acc'.length + (out x).length ≤ sizeLine → ∀ kt : List D → DE → Prop, (∀ ρ', wipeD ρ' vs = wipeD ρ vs → kt (acc' ++ out x) ρ') → g (enc x) (wipeD ρ vs) fun ρ1 => mt ρ1 (fun b ρ2 => if b = true then rest acc' ρ2 kt else kt acc' ρ2) fun _ _ _ => False) →
      (∀ ρ', wipeD ρ' vs = wipeD ρ vs → k (acc ++ l.flatMap out) ρ') → lvlD g mt vs rest (l.map enc) acc ρ1 k := by
    intro l
    induction l with
    | nil =>
      intro acc ρ1 k h1 h2 h3 h4
      have := h4 ρ1 h1
      rw [List.flatMap_nil, List.append_nil] at this
      exact this
    | cons x l ih =>
      intro acc ρ1 k h1 h2 h3 h4
      rw [List.flatMap_cons, List.length_append] at h2
      show g (enc x) (wipeD ρ1 vs) fun ρ1 => mt ρ1 (fun b ρ2 => if b = true then rest acc ρ2 (fun acc' ρ3 => lvlD g mt vs rest (l.map enc) acc' ρ3 k) else lvlD g mt vs rest (l.map enc) acc ρ2 k) fun _ _ _ => False
      rw [h1]
      refine h3 x List.mem_cons_self acc (by omega) (fun acc' ρ3 => lvlD g mt vs rest (l.map enc) acc' ρ3 k) fun ρ' hw => ih _ _ _ hw (by rw [List.length_append]; omega) (fun y hy => h3 y (List.mem_cons_of_mem _ hy)) fun ρ2 hw2 => ?_
      have := h4 ρ2 hw2
      rw [List.flatMap_cons, ← List.append_assoc] at this
      exact this
  exact main l acc ρ k rfl hl hs hd
/-- .. one item of each -/
theorem lvl_mapS {α : Type} {g : MG} {mt : MT} {vs : List Nat} {rest : MK} {k : List D → DE → Prop} {enc : α → D} (out : α → D) {ρ : DE} {l : List α} {acc : List D} (hl : acc.length + l.length ≤ sizeLine)
    (hs : ∀ x, x ∈ l → ∀ acc', acc'.length < sizeLine → ∀ kt : List D → DE → Prop, (∀ ρ', wipeD ρ' vs = wipeD ρ vs → kt (acc' ++ [out x]) ρ') → g (enc x) (wipeD ρ vs) fun ρ1 => mt ρ1 (fun b ρ2 => if b = true then rest acc' ρ2 kt else kt acc' ρ2) fun _ _ _ => False)
    (hd : ∀ ρ', wipeD ρ' vs = wipeD ρ vs → k (acc ++ l.map out) ρ') : lvlD g mt vs rest (l.map enc) acc ρ k := by
  have e : ∀ l : List α, l.flatMap (fun x => [out x]) = l.map out := fun l => by
    induction l with
    | nil => rfl
    | cons x l ih => rw [List.flatMap_cons, List.map_cons, ih]; rfl
  refine lvl_flatS (fun x => [out x]) (by rw [e, List.length_map]; exact hl) (fun x hx acc' ha kt hk => hs x hx acc' (by rw [List.length_singleton] at ha; omega) kt hk) fun ρ' hw => by rw [e]; exact hd ρ' hw
end BB
namespace BB
open PySem PySem.Spec PyProof.Rows L2
theorem sseq {a b : MS} {ρ : DE} {E : ME} (h : ∀ kt : DE → Prop, (∀ ρ', b ρ' E → kt ρ') → a ρ { nx := kt, rt := E.rt, bk := E.bk, ct := E.ct, ex := E.ex }) : sSeq a b ρ E := h _ fun _ z => z
end BB

namespace BB
open PySem PySem.Spec PyProof.Rows L2
section
variable {X : Cx} {fx : List (Nat × Addr)} {W : WX} {pos : Pos} {v : V} {d : D} {st : Stmt}
def sNever : MS := fun _ _ => False
theorem ss_never : SS X fx W st sNever := ps_imp ps_never fun _ _ _ ⟨_, _, _, _, _, h, _⟩ => h
theorem es_globE {x : Str} (h : ∃ u, X.mg x = some u ∧ RelV v u) (hd : ∀ F, Dat X.K F v d) (hg : Gl X x := by rfl) (hb : (x == ("__debug__" : Str)) = false := by decide) : ES X fx W (.Name x pos) (mC d) := by
  obtain ⟨u, h1, h2⟩ := h
  exact es_glob h1 h2 hd hg hb
end
end BB
namespace BB
open PySem PySem.Spec PyProof.Rows L2
section
variable {X : Cx} {fx : List (Nat × Addr)} {W : WX} {pos p : Pos} {CX : CXT} {k : Nat} {f : Addr} {fd : FuncData} {ps : List Str} {sp : Sp} {x : Str} {E : L2.St → XK} {fs : FS}
theorem pe_callSD0 (F : FnOk X.prog X.w X.K X.mg X.base CX k f fd ps sp) (hr : Room k X.A) (hg : Gl X x) (hm : X.mg x = some (.ref f)) (hk : PySem.W.keepIn X.K (.ref f) = true) (hb : Binds X.K fd ps []) (hx : ∀ σ, PassesAt CX X σ (E σ))
    (hdb : (x == ("__debug__" : Str)) = false := by decide) : PE X (.Call (.Name x p) [] [] pos) (tCallSD sp [] E tNil) :=
  ⟨fun pins s σ H Q I h => wpAny_Call_Name_kw (ld_glob I hg hm (PySem.W.callWith_K0 I.kIn hk (run_fnSD (us := []) (vs := []) (dvs := []) (ds := []) F hr hb .nil (hx σ) I .nil h)) hdb)⟩
theorem es_call0 (F : FnD X.prog X.w X.K X.mg X.base k f fd ps fs) (hr : Room k X.A) (hm : X.mg x = some (.ref f)) (hk : PySem.W.keepIn X.K (.ref f) = true) (hb : Binds X.K fd ps []) (tk : Takes X W) (hg : Gl X x := by rfl) (hdb : (x == ("__debug__" : Str)) = false := by decide) :
    ES X fx W (.Call (.Name x p) [] [] pos) (mCall ps.length fs aNil) :=
  pe_imp (pe_callSD0 F hr hg hm hk hb (fun σ => passAt tk σ) hdb) fun _ _ _ h => by
    obtain ⟨F, G, ρ, Q0, X0, R, h, q, x⟩ := h
    exact sp_call (as := []) (vs := []) R trivial h.1 h.2.1 h.2.2 q x
end
end BB
namespace BB
open PySem PySem.Spec PyProof.Rows L2
theorem onD_s {d : D} {k : D → Prop} : onD (some d) k = k d := rfl
theorem onD_n {k : D → Prop} : onD none k = False := rfl
theorem onC_s {d : D} {ρ : DE} {k : D → DE → Prop} : onC (some (d, ρ)) k = k d ρ := rfl
theorem ixA_lst {xs : List D} {i : Int} {Q : RV → Prop} : fIxA (.lst xs) (.int i) Q = onD (atI xs i) fun z => Q (.v z) := rfl
theorem ixA_scr {xs : List D} {i : Int} {Q : RV → Prop} : fIxA (.scr xs) (.int i) Q = onD (atI xs i) fun z => Q (.v z) := rfl
theorem ixA_tup {xs : List D} {i : Int} {Q : RV → Prop} : fIxA (.tup xs) (.int i) Q = onD (atI xs i) fun z => Q (.v z) := rfl
theorem ixA_dicS {kvs : List (Key × D)} {x : Str} {Q : RV → Prop} : fIxA (.dic kvs) (.str x) Q = onD (valD kvs (.inr x)) fun z => Q (.v z) := rfl
theorem ixA_dicI {kvs : List (Key × D)} {x : Int} {Q : RV → Prop} : fIxA (.dic kvs) (.int x) Q = onD (valD kvs (.inl x)) fun z => Q (.v z) := rfl
theorem fld_eq {C C' : Addr} {f : Str} {fs : List (Str × D)} {Q : RV → Prop} : fFld C f (.ins C' fs) Q = (C' = C ∧ onD (fs.lookup f) fun z => Q (.v z)) := rfl
theorem atI_map {α β : Type} (f : α → β) (xs : List α) (i : Int) : atI (xs.map f) i = (atI xs i).map f := by
  unfold atI
  rw [List.length_map]
  cases ixN xs.length i with
  | none => rfl
  | some j => simp [List.getElem?_map]
end BB
namespace BB
open PySem PySem.Spec PyProof.Rows L2
section
variable {d : D} {ρ : DE} {xs : List D} {c : Addr} {fs : List (Str × D)} {kvs : List (Key × D)} {i : Nat} {k : RV → Prop} {kk : DE → Prop} {kq : RV → DE → Prop} {mask : List Bool}
theorem cap_v : (RV.v d).cap ρ = some (d, ρ) := rfl
theorem cap_ow : (RV.o (.ow xs)).cap ρ = some (.lst xs, ρ) := rfl
theorem cap_oi : (RV.o (.oi c fs)).cap ρ = some (.ins c fs, ρ) := rfl
theorem cap_od : (RV.o (.od kvs)).cap ρ = some (.dic kvs, ρ) := rfl
theorem cap_sl : (RV.sl i).cap ρ = match ρ[i]? with
    | some (.fz d) => some (d, ρ)
    | some (.tr _ _) => none
    | some s => match s.rd with
      | some d => some (d, ρ.set i (.fz d))
      | none => none
    | none => none := rfl
theorem at_v : (RV.v d).at ρ = some d := rfl
theorem at_o {s : SV} : (RV.o s).at ρ = s.rd := rfl
theorem at_sl : (RV.sl i).at ρ = match ρ[i]? with
    | some s => s.rd
    | none => none := rfl
theorem keep_v : (RV.v d).keep = .v d := rfl
theorem keep_sl : (RV.sl i).keep = .sl i := rfl
theorem keep_ow : (RV.o (.ow xs)).keep = .v (.lst xs) := rfl
theorem keep_oi : (RV.o (.oi c fs)).keep = .v (.ins c fs) := rfl
theorem keep_od : (RV.o (.od kvs)).keep = .v (.dic kvs) := rfl
theorem res_v : okRes (.v d) k = k (.v d) := rfl
theorem res_o {s : SV} : okRes (.o s) k = k (.o s) := rfl
theorem ret_v : retM mask (.v d) ρ kq = kq (.v d) (keepM mask ρ) := rfl
theorem ret_o {s : SV} : retM mask (.o s) ρ kq = kq (.o s) (keepM mask ρ) := rfl
theorem ret_sl : retM mask (.sl i) ρ kq = match mask[i]? with
    | some true => False
    | _ => match ρ[i]? with
      | some s => s.own = true ∧ kq (.o s) (keepM mask ρ)
      | none => False := rfl
theorem bind_v : bindR i (.v d) ρ kk = kk (ρ.set i (.fz d)) := rfl
theorem bind_o {s : SV} : bindR i (.o s) ρ kk = kk (ρ.set i s) := rfl
theorem bind_sl {j : Nat} : bindR i (.sl j) ρ kk = onC ((RV.sl j).cap ρ) fun d ρ2 => kk (ρ2.set i (.fz d)) := rfl
end
end BB
namespace BB
open PySem PySem.Spec PyProof.Rows L2
def retR (r : RV) (ρ : DE) (E : ME) : Prop := sRet (fun ρ Q _ => Q r ρ) ρ E
theorem sRet_eq {m : M} {ρ : DE} {E : ME} : sRet m ρ E = m ρ (fun r ρ1 => retR r ρ1 E) E.ex := rfl
section
variable {d : D} {ρ : DE} {i : Nat} {E : ME} {s : SV}
theorem retR_v : retR (.v d) ρ E = E.rt (.v d) ρ := rfl
theorem retR_o : retR (.o s) ρ E = E.rt (.o s) ρ := rfl
theorem retR_sl : retR (.sl i) ρ E = match ρ[i]? with
    | some (.fz d) => E.rt (.v d) ρ
    | some .no => False
    | some (.tr s g) => E.rt (.t (.tr s g)) (ρ.set i .no)
    | some s => E.rt (.o s) (ρ.set i .no)
    | none => False := rfl
end
end BB

namespace BB
open PySem PySem.Spec PyProof.Rows L2
/-! ### the readings by what stands in a slot: one copy of what follows -/
def okL (o : Option SV) (p : Prop) : Prop := match o with
  | some (.ow _) => p
  | some (.oi _ _) => p
  | some (.od _) => p
  | some (.tr (.ow _) _) => p
  | some (.tr (.oi _ _) _) => p
  | some (.tr (.od _) _) => p
  | _ => False
def varK (o : Option SV) (i : Nat) (k : RV → Prop) : Prop := match o with
  | some (.fz d) => k (.v d)
  | some (.ow _) => k (.sl i)
  | some (.oi _ _) => k (.sl i)
  | some (.od _) => k (.sl i)
  | some (.tr (.ow _) _) => k (.sl i)
  | some (.tr (.oi _ _) _) => k (.sl i)
  | _ => False
def capS (o : Option SV) (i : Nat) (ρ : DE) : Option (D × DE) := match o with
  | some (.fz d) => some (d, ρ)
  | some (.tr _ _) => none
  | some s => match s.rd with
    | some d => some (d, ρ.set i (.fz d))
    | none => none
  | none => none
def rdS (o : Option SV) : Option D := match o with
  | some s => s.rd
  | none => none
def owS (o : Option SV) : Option (List D) := match o with
  | some (.ow xs) => some xs
  | _ => none
def svS (o : Option SV) : SV := match o with
  | some s => s
  | none => .no
def retS (o : Option SV) (i : Nat) (ρ : DE) (k : RV → DE → Prop) : Prop := match o with
    | some (.fz d) => k (.v d) ρ
    | some .no => False
    | some (.tr s g) => k (.t (.tr s g)) (ρ.set i .no)
    | some s => k (.o s) (ρ.set i .no)
    | none => False
section
variable {ρ : DE} {i j : Nat} {Q : MQ} {Xx : MX} {QA : List AA → DE → Prop} {ma : MA} {d : D} {xs : List D} {c : Addr} {fs : List (Str × D)} {kvs : List (Key × D)} {p : Prop} {k : RV → Prop} {kk : RV → DE → Prop} {E : ME} {kd : DE → Prop}
theorem aLend_eq : aLend j ma ρ QA Xx = okL ρ[j]? (ma ρ (fun as ρ3 => QA (.ln j :: as) ρ3) Xx) := rfl
theorem okL_ow : okL (some (.ow xs)) p = p := rfl
theorem okL_oi : okL (some (.oi c fs)) p = p := rfl
theorem okL_od : okL (some (.od kvs)) p = p := rfl
theorem okL_tw {g : List (Addr × List D)} : okL (some (.tr (.ow xs) g)) p = p := rfl
theorem okL_ti {g : List (Addr × List D)} : okL (some (.tr (.oi c fs) g)) p = p := rfl
theorem mVar_eq : mVar i ρ Q Xx = varK ρ[i]? i fun r => Q r ρ := rfl
theorem varK_fz : varK (some (.fz d)) i k = k (.v d) := rfl
theorem varK_ow : varK (some (.ow xs)) i k = k (.sl i) := rfl
theorem varK_oi : varK (some (.oi c fs)) i k = k (.sl i) := rfl
theorem varK_od : varK (some (.od kvs)) i k = k (.sl i) := rfl
theorem varK_tr {g : List (Addr × List D)} : varK (some (.tr (.ow xs) g)) i k = k (.sl i) := rfl
theorem varK_ti {g : List (Addr × List D)} : varK (some (.tr (.oi c fs) g)) i k = k (.sl i) := rfl
theorem capS_eq : (RV.sl i).cap ρ = capS ρ[i]? i ρ := rfl
theorem capS_fz : capS (some (.fz d)) i ρ = some (d, ρ) := rfl
theorem capS_ow : capS (some (.ow xs)) i ρ = some (.lst xs, ρ.set i (.fz (.lst xs))) := rfl
theorem capS_oi : capS (some (.oi c fs)) i ρ = some (.ins c fs, ρ.set i (.fz (.ins c fs))) := rfl
theorem capS_od : capS (some (.od kvs)) i ρ = some (.dic kvs, ρ.set i (.fz (.dic kvs))) := rfl
theorem rdS_eq : (RV.sl i).at ρ = rdS ρ[i]? := rfl
theorem rdS_s {s : SV} : rdS (some s) = s.rd := rfl
theorem owS_eq : owAt ρ i = owS ρ[i]? := rfl
theorem owS_ow : owS (some (.ow xs)) = some xs := rfl
theorem svS_eq : AA.sv ρ (.ln j) = svS ρ[j]? := rfl
theorem svS_s {s : SV} : svS (some s) = s := rfl
theorem sv_d : AA.sv ρ (.d d) = .fz d := rfl
theorem retS_eq : retR (.sl i) ρ E = retS ρ[i]? i ρ E.rt := rfl
theorem retS_fz : retS (some (.fz d)) i ρ kk = kk (.v d) ρ := rfl
theorem retS_ow : retS (some (.ow xs)) i ρ kk = kk (.o (.ow xs)) (ρ.set i .no) := rfl
theorem retS_oi : retS (some (.oi c fs)) i ρ kk = kk (.o (.oi c fs)) (ρ.set i .no) := rfl
theorem retS_tr {s : SV} {g : List (Addr × List D)} : retS (some (.tr s g)) i ρ kk = kk (.t (.tr s g)) (ρ.set i .no) := rfl
theorem retS_od : retS (some (.od kvs)) i ρ kk = kk (.o (.od kvs)) (ρ.set i .no) := rfl
def putS (o : Option SV) (ρ : DE) (j : Nat) (e d : D) (k : DE → Prop) : Prop := match o with
  | some (.ow xs) => (match e with
    | .int i => (match ixN xs.length i with
      | some n => k (ρ.set j (.ow (xs.set n d)))
      | none => False)
    | _ => False)
  | some (.od kvs) => (match e.key with
    | some y => kvs.length < sizeLine ∧ k (ρ.set j (.od (putD kvs y d)))
    | none => False)
  | _ => False
def onN (o : Option Nat) (k : Nat → Prop) : Prop := match o with
  | some n => k n
  | none => False
theorem onN_s {n : Nat} {k : Nat → Prop} : onN (some n) k = k n := rfl
theorem putS_eq {e : D} : BB.putAt ρ j e d kd = putS ρ[j]? ρ j e d kd := rfl
theorem putS_ow {z : Int} : putS (some (.ow xs)) ρ j (.int z) d kd = onN (ixN xs.length z) fun n => kd (ρ.set j (.ow (xs.set n d))) := rfl
theorem putS_od1 {z : Int} : putS (some (.od kvs)) ρ j (.int z) d kd = (kvs.length < sizeLine ∧ kd (ρ.set j (.od (putD kvs (.inl z) d)))) := rfl
theorem putS_od2 {z : Str} : putS (some (.od kvs)) ρ j (.str z) d kd = (kvs.length < sizeLine ∧ kd (ρ.set j (.od (putD kvs (.inr z) d)))) := rfl
def onX (o : Option (List D)) (k : List D → Prop) : Prop := match o with
  | some xs => k xs
  | none => False
theorem onX_s {k : List D → Prop} : onX (some xs) k = k xs := rfl
theorem mOwn_eq {P : PO} {ml : ML} : mOwn i P ml ρ Q Xx = ((∃ xs, owAt ρ i = some xs) ∧ ml ρ (fun ds ρ2 => onX (owAt ρ2 i) fun xs => P xs ds fun d ys => Q (.v d) (ρ2.set i (.ow ys))) Xx) := rfl
end
end BB
namespace BB
open PySem PySem.Spec PyProof.Rows L2
theorem lstep {m : M} {ml : ML} {ρ : DE} {Q : List D → DE → Prop} {Xx : MX} (h : ∀ kt : RV → DE → Prop, (∀ r ρ', onC (r.cap ρ') (fun d ρ2 => ml ρ2 (fun ds ρ3 => Q (d :: ds) ρ3) Xx) → kt r ρ') → m ρ kt Xx) : lCons m ml ρ Q Xx := h _ fun _ _ z => z
theorem astep {m : M} {ma : MA} {ρ : DE} {Q : List AA → DE → Prop} {Xx : MX} (h : ∀ kt : RV → DE → Prop, (∀ r ρ', onC (r.cap ρ') (fun d ρ2 => ma ρ2 (fun as ρ3 => Q (.d d :: as) ρ3) Xx) → kt r ρ') → m ρ kt Xx) : aCons m ma ρ Q Xx := h _ fun _ _ z => z
theorem ostep {f : F2} {ma mb : M} {ρ : DE} {Q : MQ} {Xx : MX} (h : ∀ kt : RV → DE → Prop, (∀ r1 ρ1, mb ρ1 (fun r2 ρ2 => onD (r1.keep.at ρ2) fun d1 => onD (r2.at ρ2) fun d2 => f d1 d2 fun r => Q r ρ2) Xx → kt r1 ρ1) → ma ρ kt Xx) : mOp2 f ma mb ρ Q Xx := h _ fun _ _ z => z
theorem mstep {m : M} {ρ : DE} {Q : MQ} {Xx : MX} (h : ∀ kt : MQ, (∀ r ρ', Q r ρ' → kt r ρ') → m ρ kt Xx) : m ρ Q Xx := h _ fun _ _ z => z
theorem mlstep {m : ML} {ρ : DE} {Q : List D → DE → Prop} {Xx : MX} (h : ∀ kt : List D → DE → Prop, (∀ r ρ', Q r ρ' → kt r ρ') → m ρ kt Xx) : m ρ Q Xx := h _ fun _ _ z => z
end BB
namespace BB
open PySem PySem.Spec PyProof.Rows L2
theorem lstepv {m : M} {ml : ML} {ρ : DE} {Q : List D → DE → Prop} {Xx : MX} (h : ∀ kt : RV → DE → Prop, (∀ d ρ', ml ρ' (fun ds ρ3 => Q (d :: ds) ρ3) Xx → kt (.v d) ρ') → m ρ kt Xx) : lCons m ml ρ Q Xx := h _ fun _ _ z => z
theorem ostepv {f : F2} {ma mb : M} {ρ : DE} {Q : MQ} {Xx : MX} (h : ∀ kt : RV → DE → Prop, (∀ d1 ρ1, mb ρ1 (fun r2 ρ2 => onD (r2.at ρ2) fun d2 => f d1 d2 fun r => Q r ρ2) Xx → kt (.v d1) ρ1) → ma ρ kt Xx) : mOp2 f ma mb ρ Q Xx := h _ fun _ _ z => z
theorem lnil {ρ : DE} {Q : List D → DE → Prop} {Xx : MX} (h : Q [] ρ) : lNil ρ Q Xx := h
end BB
namespace BB
open PySem PySem.Spec PyProof.Rows L2
theorem lstepc {m : M} {ml : ML} {ρ : DE} {Q : List D → DE → Prop} {Xx : MX} (h : ∀ kt : RV → DE → Prop, (∀ r ρ' d ρ2, r.cap ρ' = some (d, ρ2) → ml ρ2 (fun ds ρ3 => Q (d :: ds) ρ3) Xx → kt r ρ') → m ρ kt Xx) : lCons m ml ρ Q Xx := h _ fun r ρ' d ρ2 e z => by
  show onC (r.cap ρ') _
  rw [e]
  exact z
theorem astepc {m : M} {ma : MA} {ρ : DE} {Q : List AA → DE → Prop} {Xx : MX} (h : ∀ kt : RV → DE → Prop, (∀ r ρ' d ρ2, r.cap ρ' = some (d, ρ2) → ma ρ2 (fun as ρ3 => Q (.d d :: as) ρ3) Xx → kt r ρ') → m ρ kt Xx) : aCons m ma ρ Q Xx := h _ fun r ρ' d ρ2 e z => by
  show onC (r.cap ρ') _
  rw [e]
  exact z
end BB

namespace BB
open PySem PySem.Spec PyProof.Rows L2
/-! ### the plain model: lists of ints -/
abbrev intsD (xs : List Int) : D := .lst (xs.map D.int)
abbrev scrD (xs : List Int) : D := .scr (xs.map D.int)
def dotL (xs ys : List Int) : Int := (List.zipWith (fun x y => x * y) xs ys).sum
def addL (xs ys : List Int) : List Int := List.zipWith (fun x y => x + y) xs ys
def Bd (k : Nat) (xs : List Int) : Prop := ∀ x, x ∈ xs → x.natAbs < 2 ^ k
theorem zipD_int : ∀ xs ys : List Int, zipD (xs.map D.int) (ys.map D.int) = (List.zip xs ys).map fun p => .tup [.int p.1, .int p.2]
  | [], _ => rfl
  | _ :: _, [] => rfl
  | x :: xs, y :: ys => by
    show D.tup [.int x, .int y] :: zipD (xs.map D.int) (ys.map D.int) = _
    rw [zipD_int xs ys]
    rfl
theorem mulW {a b : Nat} {i j : Int} (h : i.natAbs < 2 ^ a) (h' : j.natAbs < 2 ^ b) (hl : a + b + 2 ≤ 1000000) : CMulW i j :=
  wide_mul (a := a + 1) (b := b + 1) (Nat.lt_trans h (Nat.pow_lt_pow_right (by decide) (Nat.lt_succ_self a))) (Nat.lt_trans h' (Nat.pow_lt_pow_right (by decide) (Nat.lt_succ_self b))) (by omega) (by omega) (by omega)
theorem Bd.mono {a b : Nat} {xs : List Int} (h : Bd a xs) (l : a ≤ b) : Bd b xs := fun x hx => Nat.lt_of_lt_of_le (h x hx) (Nat.pow_le_pow_right (by decide) l)
theorem zip_mem {xs ys : List Int} {p : Int × Int} (h : p ∈ List.zip xs ys) : p.1 ∈ xs ∧ p.2 ∈ ys := List.of_mem_zip (a := p.1) (b := p.2) (by simpa using h)
theorem dotL_zip (xs ys : List Int) : ((List.zip xs ys).map fun p => p.1 * p.2).sum = dotL xs ys := by
  unfold dotL
  rw [List.zip, List.map_zipWith]
theorem addL_zip (xs ys : List Int) : ((List.zip xs ys).map fun p => p.1 + p.2) = addL xs ys := by
  unfold addL
  rw [List.zip, List.map_zipWith]
theorem zip_len {xs ys : List Int} {n : Nat} (h : xs.length ≤ n) : (List.zip xs ys).length ≤ n := by
  rw [List.length_zip]; omega
/-- a range's items -/
theorem rangeD_mem {lo : Int} {n : Nat} {x : D} (h : x ∈ rangeD lo n) : ∃ i : Nat, i < n ∧ x = .int (lo + (i : Nat)) := by
  unfold rangeD at h
  obtain ⟨i, hi, rfl⟩ := List.mem_map.mp h
  exact ⟨i, by simpa using hi, rfl⟩
theorem rangeD_len (lo : Int) (n : Nat) : (rangeD lo n).length = n := by unfold rangeD; simp
theorem rangeD_get {lo : Int} {n i : Nat} {x : D} (h : (rangeD lo n)[i]? = some x) : i < n ∧ x = .int (lo + (i : Nat)) := by
  have hi := (List.getElem?_eq_some_iff.mp h).1
  rw [rangeD_len] at hi
  unfold rangeD at h
  rw [List.getElem?_map, List.getElem?_range hi] at h
  exact ⟨hi, (Option.some.inj h).symm⟩

def mulF : D → D := fun d => match d with
  | .tup [.int i, .int j] => .int (i * j)
  | _ => .non
def addF : D → D := fun d => match d with
  | .tup [.int i, .int j] => .int (i + j)
  | _ => .non
theorem map_mulF : ∀ xs ys : List Int, List.map mulF (zipD (xs.map D.int) (ys.map D.int)) = (List.zipWith (fun x y => x * y) xs ys).map D.int
  | [], _ => rfl
  | _ :: _, [] => rfl
  | x :: xs, y :: ys => by
    show mulF (.tup [.int x, .int y]) :: List.map mulF (zipD (xs.map D.int) (ys.map D.int)) = _
    rw [map_mulF xs ys]
    rfl
theorem map_addF : ∀ xs ys : List Int, List.map addF (zipD (xs.map D.int) (ys.map D.int)) = (addL xs ys).map D.int
  | [], _ => rfl
  | _ :: _, [] => rfl
  | x :: xs, y :: ys => by
    show addF (.tup [.int x, .int y]) :: List.map addF (zipD (xs.map D.int) (ys.map D.int)) = _
    rw [map_addF xs ys]
    rfl
theorem zipD_mem {xs ys : List Int} {x : D} (h : x ∈ zipD (xs.map D.int) (ys.map D.int)) : ∃ i j, i ∈ xs ∧ j ∈ ys ∧ x = .tup [.int i, .int j] := by
  rw [zipD_int] at h
  obtain ⟨p, hp, rfl⟩ := List.mem_map.mp h
  exact ⟨p.1, p.2, (zip_mem hp).1, (zip_mem hp).2, rfl⟩
theorem zipD_le {xs ys : List Int} (h : xs.length ≤ 1000) : ([] : List D).length + (zipD (xs.map D.int) (ys.map D.int)).length ≤ sizeLine := by
  rw [zipD_length, List.length_map, List.length_map, sizeLine_eq, List.length_nil]
  omega
end BB
namespace BB
open PySem PySem.Spec PyProof.Rows L2
theorem ixN_nat {n u : Nat} (h : u < n) : ixN n (u : Int) = some u := by
  unfold ixN
  simp
  omega
theorem atI_nat {α : Type} {xs : List α} {u : Nat} {x : α} (h : xs[u]? = some x) : atI xs (u : Int) = some x := by
  rw [atI_of (ixN_nat (List.getElem?_eq_some_iff.mp h).1), h]
structure Sys where
  starts : List Int
  mats : List (List (List (List Int)))
  facs : List Int
abbrev matD (m : List (List Int)) : D := .lst (m.map intsD)
abbrev matsD (m : List (List (List (List Int)))) : D := .lst (m.map fun r => .lst (r.map matD))
abbrev sysF (s : Sys) : List (Str × D) := [("starts", intsD s.starts), ("matrices", matsD s.mats), ("factors", intsD s.facs)]
theorem sysF_starts (s : Sys) : (sysF s).lookup ("starts" : Str) = some (intsD s.starts) := rfl
theorem sysF_matrices (s : Sys) : (sysF s).lookup ("matrices" : Str) = some (matsD s.mats) := rfl
theorem sysF_factors (s : Sys) : (sysF s).lookup ("factors" : Str) = some (intsD s.facs) := rfl
end BB
namespace BB
open PySem PySem.Spec PyProof.Rows L2
theorem put_sys (a b c : D) : putFD ("factors" : Str) c (putFD ("matrices" : Str) b (putFD ("starts" : Str) a [])) = [(("starts" : Str), a), (("matrices" : Str), b), (("factors" : Str), c)] := rfl
theorem len_put {f : Str} {d : D} : ∀ fs : List (Str × D), (putFD f d fs).length ≤ fs.length + 1
  | [] => Nat.le_refl _
  | (g, x) :: r => by
    unfold putFD
    split
    · simp
    · rw [List.length_cons, List.length_cons]
      have := len_put (f := f) (d := d) r
      omega
end BB
namespace BB
open PySem PySem.Spec PyProof.Rows L2
def dotF (col : List Int) : D → D := fun d => match d with
  | .lst xs => .int (dotL ((intsOf xs).getD []) col)
  | _ => .non
theorem dotF_ints (col line : List Int) : dotF col (intsD line) = .int (dotL line col) := by
  show D.int (dotL ((intsOf (line.map D.int)).getD []) col) = _
  rw [intsOf_map]
  rfl
theorem map_dotF (col : List Int) (m : List (List Int)) : List.map (dotF col) (m.map intsD) = (m.map fun line => dotL line col).map D.int := by
  rw [List.map_map, List.map_map]
  exact List.map_congr_left fun line _ => dotF_ints col line
end BB
namespace BB
open PySem PySem.Spec PyProof.Rows L2
/-! ### bounds -/
def BdN (n : Nat) (xs : List Int) : Prop := ∀ x, x ∈ xs → x.natAbs ≤ n
theorem Bd.n {k : Nat} {xs : List Int} (h : Bd k xs) : BdN (2 ^ k) xs := fun x hx => Nat.le_of_lt (h x hx)
theorem BdN.bd {k : Nat} {xs : List Int} (h : BdN (2 ^ k) xs) : Bd (k + 1) xs := fun x hx => by
  have := h x hx
  have hp : 0 < 2 ^ k := Nat.pow_pos (by decide)
  rw [Nat.pow_succ]
  omega
theorem BdN.mono {n m : Nat} {xs : List Int} (h : BdN n xs) (l : n ≤ m) : BdN m xs := fun x hx => Nat.le_trans (h x hx) l
theorem bdn_add : ∀ {xs ys : List Int} {n m : Nat}, BdN n xs → BdN m ys → BdN (n + m) (addL xs ys)
  | [], _, _, _, _, _ => fun x hx => by cases hx
  | _ :: _, [], _, _, _, _ => fun x hx => by cases hx
  | x :: xs, y :: ys, n, m, h, k => fun z hz => by
    rcases List.mem_cons.mp (show z ∈ (x + y) :: addL xs ys from hz) with rfl | hz
    · have h1 := h x List.mem_cons_self
      have h2 := k y List.mem_cons_self
      omega
    · exact bdn_add (fun w hw => h w (List.mem_cons_of_mem _ hw)) (fun w hw => k w (List.mem_cons_of_mem _ hw)) z hz
theorem bdn_dot : ∀ {xs ys : List Int} {n m : Nat}, BdN n xs → BdN m ys → (dotL xs ys).natAbs ≤ xs.length * (n * m)
  | [], _, _, _, _, _ => by simp [dotL]
  | _ :: _, [], _, _, _, _ => by simp [dotL]
  | x :: xs, y :: ys, n, m, h, k => by
    have ih := bdn_dot (fun w hw => h w (List.mem_cons_of_mem _ hw)) (fun w hw => k w (List.mem_cons_of_mem _ hw))
    have e : dotL (x :: xs) (y :: ys) = x * y + dotL xs ys := by simp [dotL]
    have h1 : (x * y).natAbs ≤ n * m := by
      rw [Int.natAbs_mul]
      exact Nat.mul_le_mul (h x List.mem_cons_self) (k y List.mem_cons_self)
    rw [e, List.length_cons, Nat.succ_mul]
    omega
theorem bd_dot {xs ys : List Int} {a b : Nat} (h : Bd a xs) (k : Bd b ys) (hl : xs.length ≤ 1000) : (dotL xs ys).natAbs ≤ 2 ^ (a + b + 10) := by
  have := bdn_dot h.n k.n
  rw [← Nat.pow_add] at this
  have h2 : xs.length * 2 ^ (a + b) ≤ 2 ^ 10 * 2 ^ (a + b) := Nat.mul_le_mul_right _ (by omega)
  rw [← Nat.pow_add, Nat.add_comm 10] at h2
  omega
theorem addL_len (xs ys : List Int) : (addL xs ys).length = min xs.length ys.length := by unfold addL; simp
/-! ### systems -/
def matAt (s : Sys) (u l : Int) : List (List Int) := ((atI s.mats u).bind fun r => atI r l).getD []
def folL (s : Sys) (col : List Int) (p : Int × Int) : List Int := (matAt s p.1 p.2).map fun line => dotL line col
def sumsFrom (s : Sys) (col : List Int) (ps : List (Int × Int)) (acc : List Int) : List Int := ps.foldl (fun acc p => addL acc (folL s col p)) acc
def sumsL (s : Sys) (ps : List (Int × Int)) (col : List Int) : List Int := sumsFrom s col ps (List.replicate col.length 0)
def iterS (s : Sys) (ps : List (Int × Int)) : Nat → List Int
  | 0 => s.starts
  | n + 1 => sumsL s ps (iterS s ps n)
/-- a system of n tables, its numbers below 2 ^ a -/
structure SysOk (s : Sys) (n a : Nat) : Prop where
  small : n ≤ 1000
  st : s.starts.length = n
  fc : s.facs.length = n
  mt : ∀ u l : Nat, u < s.mats.length → l < s.mats.length → ∃ r m, s.mats[u]? = some r ∧ r[l]? = some m ∧ m.length = n ∧ ∀ line, line ∈ m → line.length = n ∧ Bd a line
def InB (s : Sys) (p : Int × Int) : Prop := 0 ≤ p.1 ∧ p.1 < s.mats.length ∧ 0 ≤ p.2 ∧ p.2 < s.mats.length
theorem SysOk.at {s : Sys} {n a : Nat} (h : SysOk s n a) {p : Int × Int} (hp : InB s p) : ∃ r, atI s.mats p.1 = some r ∧ atI r p.2 = some (matAt s p.1 p.2) ∧ (matAt s p.1 p.2).length = n ∧ ∀ line, line ∈ matAt s p.1 p.2 → line.length = n ∧ Bd a line := by
  obtain ⟨p1, p2⟩ := p
  obtain ⟨h1, h2, h3, h4⟩ := hp
  obtain ⟨u, rfl⟩ := Int.eq_ofNat_of_zero_le h1
  obtain ⟨l, rfl⟩ := Int.eq_ofNat_of_zero_le h3
  obtain ⟨r, m, e1, e2, e3, e4⟩ := h.mt u l (by simp only at h2; omega) (by simp only at h4; omega)
  have q1 : atI s.mats ((u : Nat) : Int) = some r := atI_nat e1
  have q2 : atI r ((l : Nat) : Int) = some m := atI_nat e2
  have q3 : matAt s (u : Nat) (l : Nat) = m := by unfold matAt; rw [q1, Option.bind_some, q2]; rfl
  exact ⟨r, q1, by rw [q3]; exact q2, by rw [q3]; exact e3, by rw [q3]; exact e4⟩
theorem SysOk.fol {s : Sys} {n a b : Nat} {col : List Int} (h : SysOk s n a) (hc : Bd b col) {p : Int × Int} (hp : InB s p) : (folL s col p).length = n ∧ BdN (2 ^ (a + b + 10)) (folL s col p) := by
  obtain ⟨r, _, _, h3, h4⟩ := h.at hp
  refine ⟨by unfold folL; rw [List.length_map]; exact h3, fun x hx => ?_⟩
  obtain ⟨line, hm, rfl⟩ := List.mem_map.mp hx
  exact bd_dot (h4 _ hm).2 hc (by rw [(h4 _ hm).1]; exact h.small)
theorem SysOk.from {s : Sys} {n a b : Nat} {col : List Int} (h : SysOk s n a) (hc : Bd b col) : ∀ {ps : List (Int × Int)} {acc : List Int} {j : Nat}, (∀ p, p ∈ ps → InB s p) → acc.length = n → BdN (j * 2 ^ (a + b + 10)) acc →
    (sumsFrom s col ps acc).length = n ∧ BdN ((j + ps.length) * 2 ^ (a + b + 10)) (sumsFrom s col ps acc)
  | [], acc, j, _, h1, h2 => ⟨h1, h2⟩
  | p :: ps, acc, j, hp, h1, h2 => by
    obtain ⟨f1, f2⟩ := h.fol hc (hp p List.mem_cons_self)
    have hb := bdn_add h2 f2
    rw [← Nat.succ_mul] at hb
    have := SysOk.from h hc (ps := ps) (acc := addL acc (folL s col p)) (j := j + 1) (fun q hq => hp q (List.mem_cons_of_mem _ hq)) (by rw [addL_len, h1, f1, Nat.min_self]) hb
    rw [List.length_cons, show j + (ps.length + 1) = j + 1 + ps.length by omega]
    exact this
theorem SysOk.sums {s : Sys} {n a b : Nat} {col : List Int} {ps : List (Int × Int)} (h : SysOk s n a) (hc : Bd b col) (hl : col.length = n) (hp : ∀ p, p ∈ ps → InB s p) (h16 : ps.length ≤ 16) : (sumsL s ps col).length = n ∧ Bd (b + (a + 15)) (sumsL s ps col) := by
  obtain ⟨h1, h2⟩ := h.from hc (ps := ps) (acc := List.replicate col.length 0) (j := 0) hp (by rw [List.length_replicate]; exact hl) (fun x hx => by rw [List.eq_of_mem_replicate hx]; exact Nat.zero_le _)
  refine ⟨h1, ?_⟩
  have h3 : BdN (2 ^ (a + b + 14)) (sumsL s ps col) := h2.mono (by
    rw [Nat.zero_add, show a + b + 14 = 4 + (a + b + 10) by omega, Nat.pow_add 2 4]
    exact Nat.mul_le_mul_right _ (by omega))
  have := h3.bd
  rw [show b + (a + 15) = a + b + 14 + 1 by omega]
  exact this
theorem SysOk.iter {s : Sys} {n a b : Nat} {ps : List (Int × Int)} (h : SysOk s n a) (hc : Bd b s.starts) (hp : ∀ p, p ∈ ps → InB s p) (h16 : ps.length ≤ 16) : ∀ t, (iterS s ps t).length = n ∧ Bd (b + t * (a + 15)) (iterS s ps t)
  | 0 => ⟨h.st, by rw [Nat.zero_mul]; exact hc⟩
  | t + 1 => by
    obtain ⟨h1, h2⟩ := SysOk.iter h hc hp h16 t
    have := h.sums h2 h1 hp h16
    rw [Nat.succ_mul, ← Nat.add_assoc]
    exact this
/-! ### results told by value or new -/
def Tells (r : RV) (xs : List D) : Prop := r = .v (.lst xs) ∨ r = .o (.ow xs)
theorem Tells.cap {r : RV} {xs : List D} {ρ : DE} (h : Tells r xs) : r.cap ρ = some (.lst xs, ρ) := by rcases h with rfl | rfl <;> rfl
theorem Tells.res {r : RV} {xs : List D} {k : RV → Prop} (h : Tells r xs) : okRes r k = k r := by rcases h with rfl | rfl <;> rfl
theorem Tells.ret {r : RV} {xs : List D} {mask : List Bool} {ρ : DE} {k : RV → DE → Prop} (h : Tells r xs) : retM mask r ρ k = k r (keepM mask ρ) := by rcases h with rfl | rfl <;> rfl
abbrev placeD (p : Int × Int) : D := .tup [.int p.1, .int p.2]
abbrev placesD (ps : List (Int × Int)) : D := .lst (ps.map placeD)
theorem rep_flat {α : Type} (x : α) : ∀ n, (List.replicate n [x]).flatten = List.replicate n x
  | 0 => rfl
  | n + 1 => by rw [List.replicate_succ, List.flatten_cons, rep_flat x n]; rfl
end BB
namespace BB
open PySem PySem.Spec PyProof.Rows L2
theorem sums_step {s : Sys} {col acc : List Int} {ps : List (Int × Int)} {i : Nat} {p : Int × Int} (h : ps[i]? = some p) : sumsFrom s col (ps.take (i + 1)) acc = addL (sumsFrom s col (ps.take i) acc) (folL s col p) := by
  rw [List.take_add_one, h]
  simp only [sumsFrom, List.foldl_append]
  rfl
theorem map_get {α β : Type} {f : α → β} {l : List α} {i : Nat} {y : β} (h : (l.map f)[i]? = some y) : ∃ x, l[i]? = some x ∧ x ∈ l ∧ y = f x := by
  rw [List.getElem?_map] at h
  cases e : l[i]? with
  | none => rw [e] at h; cases h
  | some x =>
    rw [e] at h
    exact ⟨x, rfl, List.mem_of_getElem? e, (Option.some.inj h).symm⟩
end BB
namespace BB
open PySem PySem.Spec PyProof.Rows L2
/-! ### books and tables -/
abbrev Form := List (Int × Str)
abbrev Line := Str × Int × List (List Form)
def pairD (x : Int × Str) : D := .tup [.int x.1, .str x.2]
def formT (f : Form) : D := .tup (f.map pairD)
def formL (f : Form) : D := .lst (f.map pairD)
def blocksT (b : List (List Form)) : D := .tup (b.map fun l => .tup (l.map formT))
def blocksL (b : List (List Form)) : D := .lst (b.map fun l => .lst (l.map formL))
def lineT (x : Line) : D := .tup [.str x.1, .int x.2.1, blocksT x.2.2]
def lineL (x : Line) : D := .tup [.str x.1, .int x.2.1, blocksL x.2.2]
abbrev bookF (base : Int) (ls : List Line) : List (Str × D) := [("radix", .int base), ("kept", .tup (ls.map lineT))]
theorem bookF_radix (base : Int) (ls : List Line) : (bookF base ls).lookup ("radix" : Str) = some (.int base) := rfl
theorem bookF_kept (base : Int) (ls : List Line) : (bookF base ls).lookup ("kept" : Str) = some (.tup (ls.map lineT)) := rfl
def allPl (b : Nat) : List (Int × Int) := (List.range b).flatMap fun u => (List.range b).map fun l => (((u : Nat) : Int), ((l : Nat) : Int))
end BB
namespace BB
open PySem PySem.Spec PyProof.Rows L2
abbrev tableF (bk : D) (sh : List Int) : List (Str × D) := [("told_by", bk), ("parts", .tup (sh.map D.int))]
theorem tableF_told (bk : D) (sh : List Int) : (tableF bk sh).lookup ("told_by" : Str) = some bk := rfl
theorem tableF_parts (bk : D) (sh : List Int) : (tableF bk sh).lookup ("parts" : Str) = some (.tup (sh.map D.int)) := rfl
end BB

namespace BB
open PySem PySem.Spec PyProof.Rows L2
/-! ### == and in over known kinds of data -/
theorem pys_int : ∀ xs : List Int, D.pys (xs.map D.int) = some (xs.map PyData.int)
  | [] => rfl
  | x :: xs => by
    rw [List.map_cons]
    unfold D.pys
    rw [pys_int xs]
    rfl
theorem pys_str : ∀ xs : List Str, D.pys (xs.map D.str) = some (xs.map PyData.str)
  | [] => rfl
  | x :: xs => by
    rw [List.map_cons]
    unfold D.pys
    rw [pys_str xs]
    rfl
theorem lay_int : ∀ xs : List Int, PyData.canLayAll0 (xs.map PyData.int) = true
  | [] => by simp only [List.map_nil, PyData.canLayAll0]
  | x :: xs => by simp only [List.map_cons, PyData.canLayAll0, PyData.canLay0, lay_int xs, Bool.and_self]
def OkS (x : Str) : Prop := PyData.canLay0 (.str x) = true
theorem lay_str : ∀ xs : List Str, (∀ x, x ∈ xs → OkS x) → PyData.canLayAll0 (xs.map PyData.str) = true
  | [], _ => by simp only [List.map_nil, PyData.canLayAll0]
  | x :: xs, h => by
    have h1 : PyData.canLay0 (.str x) = true := h x List.mem_cons_self
    simp only [List.map_cons, PyData.canLayAll0, h1, lay_str xs fun y hy => h y (List.mem_cons_of_mem _ hy), Bool.and_self]
theorem dep_int : ∀ xs : List Int, PyData.depthAll (xs.map PyData.int) ≤ 1
  | [] => by simp [PyData.depthAll]
  | x :: xs => by
    have := dep_int xs
    simp only [List.map_cons, PyData.depthAll, PyData.depth]
    omega
theorem dep_str : ∀ xs : List Str, PyData.depthAll (xs.map PyData.str) ≤ 1
  | [] => by simp [PyData.depthAll]
  | x :: xs => by
    have := dep_str xs
    simp only [List.map_cons, PyData.depthAll, PyData.depth]
    omega
theorem shp_i (i : Int) : SeqAt.shaped (.int i) = true := rfl
theorem shp_s {x : Str} (h : OkS x) : SeqAt.shaped (.str x) = true := by
  have h1 : PyData.canLay0 (.str x) = true := h
  unfold SeqAt.shaped
  rw [h1]
  rfl
theorem shp_li (xs : List Int) : SeqAt.shaped (.list (xs.map PyData.int)) = true := by
  unfold SeqAt.shaped
  have h1 : PyData.canLay0 (.list (xs.map PyData.int)) = true := by simp only [PyData.canLay0, lay_int]
  have h2 : PyData.depth (.list (xs.map PyData.int)) ≤ 64 := by
    have := dep_int xs
    simp only [PyData.depth]
    omega
  rw [h1, decide_eq_true h2]
  rfl
theorem shp_ls {xs : List Str} (h : ∀ x, x ∈ xs → OkS x) : SeqAt.shaped (.list (xs.map PyData.str)) = true := by
  unfold SeqAt.shaped
  have h1 : PyData.canLay0 (.list (xs.map PyData.str)) = true := by simp only [PyData.canLay0, lay_str xs h]
  have h2 : PyData.depth (.list (xs.map PyData.str)) ≤ 64 := by
    have := dep_str xs
    simp only [PyData.depth]
    omega
  rw [h1, decide_eq_true h2]
  rfl
theorem eqv_li : ∀ xs ys : List Int, PyData.eqvAll (xs.map PyData.int) (ys.map PyData.int) = decide (xs = ys)
  | [], [] => rfl
  | [], _ :: _ => rfl
  | _ :: _, [] => rfl
  | x :: xs, y :: ys => by
    simp only [List.map_cons, PyData.eqvAll, PyData.eqv, eqv_li xs ys]
    by_cases h : x = y <;> by_cases h' : xs = ys <;> simp [h, h']
theorem eqD_i (a b : Int) : eqD (.int a) (.int b) = some (decide (a = b)) := by
  show (if SeqAt.shaped (.int a) = true ∧ SeqAt.shaped (.int b) = true then some (PyData.eqv (.int a) (.int b)) else none) = _
  rw [if_pos ⟨shp_i a, shp_i b⟩]
  simp only [PyData.eqv]
  congr 1
theorem eqD_li (xs ys : List Int) : eqD (intsD xs) (intsD ys) = some (decide (xs = ys)) := by
  have e : ∀ zs : List Int, D.py (intsD zs) = some (.list (zs.map PyData.int)) := fun zs => by
    show (match D.pys (zs.map D.int) with | some ys => some (PyData.list ys) | none => none) = _
    rw [pys_int]
  unfold eqD
  rw [e, e]
  show (if SeqAt.shaped (.list (xs.map PyData.int)) = true ∧ SeqAt.shaped (.list (ys.map PyData.int)) = true then some (PyData.eqv (.list (xs.map PyData.int)) (.list (ys.map PyData.int))) else none) = _
  rw [if_pos ⟨shp_li xs, shp_li ys⟩]
  simp only [PyData.eqv, eqv_li]
theorem py_ls (xs : List Str) : D.py (.lst (xs.map D.str)) = some (.list (xs.map PyData.str)) := by
  show (match D.pys (xs.map D.str) with | some ys => some (PyData.list ys) | none => none) = _
  rw [pys_str]
theorem eqv_s (x y : Str) : PyData.eqv (.str x) (.str y) = (x == y) := by simp only [PyData.eqv]
/-- == of ints -/
theorem fEq_i (neg : Bool) (a b : Int) (Q : RV → Prop) : fEq neg (.int a) (.int b) Q = Q (.v (.bl (if neg then !(decide (a = b)) else decide (a = b)))) := by
  unfold fEq
  rw [eqD_i]
  rfl
theorem fEq_li (neg : Bool) (a b : List Int) (Q : RV → Prop) : fEq neg (intsD a) (intsD b) Q = Q (.v (.bl (if neg then !(decide (a = b)) else decide (a = b)))) := by
  unfold fEq
  rw [eqD_li]
  rfl
theorem fEq_s (neg : Bool) (x y : Str) (Q : RV → Prop) : fEq neg (.str x) (.str y) Q = Q (.v (.bl (if neg then !(decide (x = y)) else decide (x = y)))) := rfl
/-- x in xs, texts -/
theorem fIn_ls (neg : Bool) {x : Str} {xs : List Str} (hx : OkS x) (hxs : ∀ y, y ∈ xs → OkS y) (Q : RV → Prop) : fIn neg (.str x) (.lst (xs.map D.str)) Q = Q (.v (.bl (if neg then !(decide (x ∈ xs)) else decide (x ∈ xs)))) := by
  have e : (List.any (xs.map PyData.str) fun z => PyData.eqv z (.str x)) = decide (x ∈ xs) := by
    rw [List.any_map]
    by_cases h : x ∈ xs
    · rw [decide_eq_true h, List.any_eq_true]
      exact ⟨x, h, by simp [eqv_s]⟩
    · rw [decide_eq_false h, List.any_eq_false]
      intro y hy
      simp only [Function.comp, eqv_s]
      intro hh
      exact h (by rw [← beq_iff_eq.mp hh]; exact hy)
  show (match D.pys (xs.map D.str), D.py (.str x) with
    | some ps, some p => (SeqAt.shaped p = true ∧ SeqAt.shaped (.list ps) = true) ∧ Q (.v (.bl (if neg then !(ps.any fun z => PyData.eqv z p) else ps.any fun z => PyData.eqv z p)))
    | _, _ => False) = _
  rw [pys_str]
  show ((SeqAt.shaped (.str x) = true ∧ SeqAt.shaped (.list (xs.map PyData.str)) = true) ∧ Q (.v (.bl (if neg then !((xs.map PyData.str).any fun z => PyData.eqv z (.str x)) else (xs.map PyData.str).any fun z => PyData.eqv z (.str x))))) = _
  rw [e]
  exact propext ⟨fun h => h.2, fun h => ⟨⟨shp_s hx, shp_ls hxs⟩, h⟩⟩
/-- names.index(x) -/
def idxL (xs : List Str) (x : Str) : Nat := xs.findIdx (· == x)
theorem fIndex_ls {x : Str} {xs : List Str} (hx : OkS x) (hxs : ∀ y, y ∈ xs → OkS y) (hm : x ∈ xs) (Q : RV → Prop) : fIndex (.lst (xs.map D.str)) (.str x) Q = Q (.v (.int (idxL xs x : Nat))) := by
  have e : firstAt (xs.map PyData.str) (.str x) = some (idxL xs x) := by
    unfold firstAt idxL
    rw [List.findIdx?_map]
    have h : List.findIdx? ((fun z => PyData.eqv z (PyData.str x)) ∘ PyData.str) xs = List.findIdx? (· == x) xs := by
      congr 1
    rw [h, List.findIdx?_eq_some_iff_findIdx_eq]
    exact ⟨List.findIdx_lt_length.mpr ⟨x, hm, by simp⟩, rfl⟩
  show (match D.py (.lst (xs.map D.str)), D.py (.str x) with
    | some (.list ps), some q => if SeqAt.shaped (.list ps) = true ∧ SeqAt.shaped q = true then (match firstAt ps q with
      | some j => Q (.v (.int (j : Nat)))
      | none => False) else False
    | _, _ => False) = _
  rw [py_ls]
  show (if SeqAt.shaped (.list (xs.map PyData.str)) = true ∧ SeqAt.shaped (.str x) = true then (match firstAt (xs.map PyData.str) (.str x) with
      | some j => Q (.v (.int (j : Nat)))
      | none => False) else False) = _
  rw [if_pos ⟨shp_ls hxs, shp_s hx⟩, e]
theorem idxL_lt {xs : List Str} {x : Str} (h : x ∈ xs) : idxL xs x < xs.length := List.findIdx_lt_length.mpr ⟨x, h, by simp⟩
end BB
namespace BB
open PySem PySem.Spec PyProof.Rows L2
/-! ### a book's matrices -/
def nmsOf (ls : List Line) : List Str := ls.map fun x => x.1
def bump (row : List Int) (i : Nat) (c : Int) : List Int := row.set i (row.getD i 0 + c)
def rowFrom (ns : List Str) (f : Form) (row : List Int) : List Int := f.foldl (fun row c => bump row (idxL ns c.2) c.1) row
def rowL (ns : List Str) (f : Form) : List Int := rowFrom ns f (List.replicate ns.length 0)
def formAt (b : List (List Form)) (u l : Int) : Form := ((atI b u).bind fun r => atI r l).getD []
def matL (ls : List Line) (u l : Int) : List (List Int) := ls.map fun x => rowL (nmsOf ls) (formAt x.2.2 u l)
/-- a book of the base b whose numbers are below 2 ^ a -/
structure BookOk (b : Nat) (ls : List Line) : Prop where
  few : ls.length ≤ 26
  base : b ≤ 3
  nm : ∀ x, x ∈ nmsOf ls → OkS x
  sq : ∀ x, x ∈ ls → x.2.2.length = b ∧ ∀ r, r ∈ x.2.2 → r.length = b
  fm : ∀ x, x ∈ ls → ∀ r, r ∈ x.2.2 → ∀ f, f ∈ r → ∀ c, c ∈ f → c.2 ∈ nmsOf ls
def InP (b : Nat) (u l : Int) : Prop := 0 ≤ u ∧ u < b ∧ 0 ≤ l ∧ l < b
theorem BookOk.at {b : Nat} {ls : List Line} (h : BookOk b ls) {x : Line} (hx : x ∈ ls) {u l : Int} (hp : InP b u l) : ∃ r, atI x.2.2 u = some r ∧ atI r l = some (formAt x.2.2 u l) ∧ ∀ c, c ∈ formAt x.2.2 u l → c.2 ∈ nmsOf ls := by
  obtain ⟨h1, h2, h3, h4⟩ := hp
  obtain ⟨u, rfl⟩ := Int.eq_ofNat_of_zero_le h1
  obtain ⟨l, rfl⟩ := Int.eq_ofNat_of_zero_le h3
  obtain ⟨s1, s2⟩ := h.sq x hx
  have e1 : x.2.2[u]? = some (x.2.2[u]'(by omega)) := List.getElem?_eq_getElem (by omega)
  have m1 := List.mem_of_getElem? e1
  have l1 := s2 _ m1
  have e2 : (x.2.2[u]'(by omega))[l]? = some ((x.2.2[u]'(by omega))[l]'(by omega)) := List.getElem?_eq_getElem (by omega)
  have q1 := atI_nat e1
  have q2 := atI_nat e2
  have q3 : formAt x.2.2 (u : Nat) (l : Nat) = (x.2.2[u]'(by omega))[l]'(by omega) := by unfold formAt; rw [q1, Option.bind_some, q2]; rfl
  exact ⟨_, q1, by rw [q3]; exact q2, fun c hc => by rw [q3] at hc; exact h.fm x hx _ m1 _ (List.mem_of_getElem? e2) c hc⟩
theorem bump_len (row : List Int) (i : Nat) (c : Int) : (bump row i c).length = row.length := by unfold bump; rw [List.length_set]
theorem rowFrom_len (ns : List Str) : ∀ (f : Form) (row : List Int), (rowFrom ns f row).length = row.length
  | [], _ => rfl
  | c :: f, row => by
    show (rowFrom ns f (bump row (idxL ns c.2) c.1)).length = _
    rw [rowFrom_len ns f, bump_len]
theorem row_step {ns : List Str} {f : Form} {row : List Int} {i : Nat} {c : Int × Str} (h : f[i]? = some c) : rowFrom ns (f.take (i + 1)) row = bump (rowFrom ns (f.take i) row) (idxL ns c.2) c.1 := by
  rw [List.take_add_one, h]
  simp only [rowFrom, List.foldl_append]
  rfl
theorem bump_map (row : List Int) (i : Nat) (c : Int) : (row.map D.int).set i (.int (row.getD i 0 + c)) = (bump row i c).map D.int := by
  unfold bump
  rw [List.map_set]
end BB
namespace BB
open PySem PySem.Spec PyProof.Rows L2
theorem mat_step {ls : List Line} {u l : Int} {i : Nat} {x : Line} (h : ls[i]? = some x) : (matL ls u l).take (i + 1) = (matL ls u l).take i ++ [rowL (nmsOf ls) (formAt x.2.2 u l)] := by
  rw [List.take_add_one]
  have e : (matL ls u l)[i]? = some (rowL (nmsOf ls) (formAt x.2.2 u l)) := by unfold matL; rw [List.getElem?_map, h]; rfl
  rw [e]
  rfl
theorem getD_some {row : List Int} {i : Nat} (h : i < row.length) : row[i]? = some (row.getD i 0) := by
  rw [List.getElem?_eq_getElem h, List.getD_eq_getElem?_getD, List.getElem?_eq_getElem h]
  rfl
end BB
namespace BB
open PySem PySem.Spec PyProof.Rows L2
def sysOf (b : Nat) (ls : List Line) (sh : List Int) : Sys := ⟨ls.map fun x => x.2.1, (List.range b).map fun u : Nat => (List.range b).map fun l : Nat => matL ls (u : Nat) (l : Nat), sh⟩
abbrev bookD (C : Addr) (b : Nat) (ls : List Line) : D := .ins C (bookF b ls)
structure TabOk (b : Nat) (ls : List Line) (sh : List Int) (a : Nat) : Prop where
  bk : BookOk b ls
  ln : sh.length = ls.length
  ma : ∀ x, x ∈ ls → ∀ u l, InP b u l → Bd a (rowL (nmsOf ls) (formAt x.2.2 u l))
  st : Bd a (ls.map fun x => x.2.1)
  fc : Bd a sh
theorem nms_len (ls : List Line) : (nmsOf ls).length = ls.length := by unfold nmsOf; rw [List.length_map]
theorem TabOk.sys {b : Nat} {ls : List Line} {sh : List Int} {a : Nat} (h : TabOk b ls sh a) : SysOk (sysOf b ls sh) ls.length a where
  small := by have := h.bk.few; omega
  st := by unfold sysOf; simp only [List.length_map]
  fc := h.ln
  mt := fun u l hu hl => by
    unfold sysOf at hu hl ⊢
    simp only [List.length_map, List.length_range] at hu hl ⊢
    refine ⟨_, matL ls (u : Nat) (l : Nat), by rw [List.getElem?_map, List.getElem?_range hu]; rfl, by rw [List.getElem?_map, List.getElem?_range hl]; rfl, by unfold matL; rw [List.length_map], fun line hm => ?_⟩
    unfold matL at hm
    obtain ⟨x, hx, rfl⟩ := List.mem_map.mp hm
    exact ⟨by unfold rowL; rw [rowFrom_len, List.length_replicate, nms_len], h.ma x hx _ _ ⟨by omega, by omega, by omega, by omega⟩⟩
theorem sysOf_mats (b : Nat) (ls : List Line) (sh : List Int) : (sysOf b ls sh).mats.length = b := by unfold sysOf; simp only [List.length_map, List.length_range]
theorem allPl_in {b : Nat} {s : Sys} (h : s.mats.length = b) {p : Int × Int} (hp : p ∈ allPl b) : InB s p := by
  unfold allPl at hp
  obtain ⟨u, hu, hp⟩ := List.mem_flatMap.mp hp
  obtain ⟨l, hl, rfl⟩ := List.mem_map.mp hp
  rw [List.mem_range] at hu hl
  exact ⟨by simp only; omega, by simp only; omega, by simp only; omega, by simp only; omega⟩
def diagPl (b : Nat) : List (Int × Int) := (List.range b).map fun u => (((u : Nat) : Int), ((u : Nat) : Int))
theorem diagPl_in {b : Nat} {s : Sys} (h : s.mats.length = b) {p : Int × Int} (hp : p ∈ diagPl b) : InB s p := by
  unfold diagPl at hp
  obtain ⟨u, hu, rfl⟩ := List.mem_map.mp hp
  rw [List.mem_range] at hu
  exact ⟨by simp only; omega, by simp only; omega, by simp only; omega, by simp only; omega⟩
theorem allPl_len (b : Nat) : (allPl b).length = b * b := by
  have : ∀ l : List Nat, (l.flatMap fun u => (List.range b).map fun l => (((u : Nat) : Int), ((l : Nat) : Int))).length = l.length * b := fun l => by
    induction l with
    | nil => simp
    | cons x l ih => rw [List.flatMap_cons, List.length_append, ih, List.length_map, List.length_range, List.length_cons, Nat.succ_mul]; omega
  unfold allPl
  rw [this, List.length_range]
theorem sq16 {b : Nat} (h : b ≤ 3) : (allPl b).length ≤ 16 := by
  rw [allPl_len]
  have := Nat.mul_le_mul h h
  omega
def totL (s : Sys) (ps : List (Int × Int)) (lv : Nat) : Int := dotL s.facs (iterS s ps lv)
end BB
namespace BB
open PySem PySem.Spec PyProof.Rows L2
theorem lookup_no {f g : Str} {d : D} {r : List (Str × D)} (h : ¬ f = g) (hr : r.lookup f = none) : ((g, d) :: r).lookup f = none := by
  have q : (f == g) = false := by simpa using h
  rw [List.lookup_cons, q]
  exact hr
theorem sys_no {f : Str} (b : Nat) (ls : List Line) (sh : List Int) (h1 : ¬ f = ("starts" : Str)) (h2 : ¬ f = ("matrices" : Str)) (h3 : ¬ f = ("factors" : Str)) : (sysF (sysOf b ls sh)).lookup f = none :=
  lookup_no h1 (lookup_no h2 (lookup_no h3 rfl))
end BB
namespace BB
open PySem PySem.Spec PyProof.Rows L2
theorem sysD_eq (b : Nat) (ls : List Line) (sh : List Int) : sysF (sysOf b ls sh) = [(("starts" : Str), .lst ((ls.map fun x => x.2.1).map D.int)), (("matrices" : Str), .lst ((List.range b).map fun u : Nat => .lst ((List.range b).map fun l : Nat => matD (matL ls (u : Nat) (l : Nat))))), (("factors" : Str), .lst (sh.map D.int))] := by
  have e : matsD (sysOf b ls sh).mats = .lst ((List.range b).map fun u : Nat => .lst ((List.range b).map fun l : Nat => matD (matL ls (u : Nat) (l : Nat)))) := by
    unfold sysOf
    simp only [matsD, List.map_map]
    congr 1
    apply List.map_congr_left
    intro u _
    simp only [Function.comp, List.map_map]
    rfl
  show [(("starts" : Str), intsD (sysOf b ls sh).starts), (("matrices" : Str), matsD (sysOf b ls sh).mats), (("factors" : Str), intsD (sysOf b ls sh).facs)] = _
  rw [e]
  rfl
theorem diagD_eq (b : Nat) : placesD (diagPl b) = .lst ((List.range b).map fun u : Nat => placeD (((u : Nat) : Int), ((u : Nat) : Int))) := by
  unfold diagPl placesD
  rw [List.map_map]
  rfl
end BB

namespace BB
open PySem PySem.Spec PyProof.Rows L2
theorem wipeD_ext {ρ ρ' : DE} {vs : List Nat} (hl : ρ.length = ρ'.length) (h : ∀ i, i ∉ vs → ρ[i]? = ρ'[i]?) : wipeD ρ vs = wipeD ρ' vs := by
  apply List.ext_getElem?
  intro i
  by_cases hi : i ∈ vs
  · by_cases hlt : i < ρ.length
    · rw [wipeD_get2 hi hlt, wipeD_get2 hi (by rw [← hl]; exact hlt)]
    · rw [List.getElem?_eq_none (by rw [wipeD_length]; omega), List.getElem?_eq_none (by rw [wipeD_length]; omega)]
  · rw [wipeD_out hi, wipeD_out hi, h i hi]
theorem wipeD_set {ρ : DE} {vs : List Nat} {i : Nat} {s : SV} (h : i ∈ vs) : wipeD (ρ.set i s) vs = wipeD ρ vs :=
  wipeD_ext (by rw [List.length_set]) fun j hj => List.getElem?_set_ne (fun e => hj (by rw [← e]; exact h))
theorem wipeD_sub {ρ : DE} {us vs : List Nat} (h : ∀ i, i ∈ us → i ∈ vs) : wipeD (wipeD ρ us) vs = wipeD ρ vs :=
  wipeD_ext (wipeD_length us) fun j hj => wipeD_out fun q => hj (h j q)
/-- [(h, t) for t in range(w)], [(o, w) for o in range(h)], [(o, t) for o in range(h) for t in range(w)] -/
def pl1 (u : Nat) (w : Nat) : List (Int × Int) := (List.range w).map fun t : Nat => (((u : Nat) : Int), ((t : Nat) : Int))
def pl2 (h : Nat) (l : Nat) : List (Int × Int) := (List.range h).map fun o : Nat => (((o : Nat) : Int), ((l : Nat) : Int))
def plR (h w : Nat) : List (Int × Int) := (List.range h).flatMap fun o => (List.range w).map fun t : Nat => (((o : Nat) : Int), ((t : Nat) : Int))
section
variable {ρ : DE} {Q : MQ} {Xx : MX} {hs ws o t h w : Nat}
theorem lc_1 (h1 : ρ[hs]? = some (.fz (.int (h : Nat)))) (h2 : ρ[ws]? = some (.fz (.int (w : Nat)))) (n1 : hs ≠ t) (hw : w ≤ 1000) (ht : t < ρ.length) (q : Q (.o (.ow ((pl1 h w).map placeD))) ρ) :
    mLc (iRange1 (lCons (mVar ws) lNil)) (gN t) mYes [t] (kElt (mTup (lCons (mVar hs) (lCons (mVar t) lNil)))) ρ Q Xx := by
  simp only [mLc, iRange1, lCons, lNil, mVar, h2, cap_v, onC_s]
  refine ⟨by omega, ?_⟩
  rw [Int.toNat_natCast]
  refine lvl_mapS (fun u : Nat => placeD (((h : Nat) : Int), ((u : Nat) : Int))) (by rw [List.length_range, List.length_nil, sizeLine_eq]; omega) ?_ ?_
  · intro u hu acc hl kt hk
    have e1 : ((wipeD (wipeD ρ [t]) [t]).set t (.fz (.int (0 + (u : Nat)))))[hs]? = some (.fz (.int (h : Nat))) := by
      rw [List.getElem?_set_ne (Ne.symm n1), wipeD_out (by simpa using n1), wipeD_out (by simpa using n1), h1]
    have e2 : ((wipeD (wipeD ρ [t]) [t]).set t (.fz (.int (0 + (u : Nat)))))[t]? = some (.fz (.int (0 + (u : Nat)))) := by
      rw [List.getElem?_set_self (by rw [wipeD_length, wipeD_length]; exact ht)]
    simp only [gN, mYes, if_true, kElt, mTup, lCons, lNil, mVar, e1, e2, cap_v, onC_s, List.length_cons, List.length_nil]
    refine ⟨by rw [sizeLine_eq]; decide, hl, ?_⟩
    have := hk ((wipeD (wipeD ρ [t]) [t]).set t (.fz (.int (0 + (u : Nat))))) (by rw [wipeD_set (by simp), wipeD_wipeD])
    rw [Int.zero_add] at this ⊢
    exact this
  · intro ρ' hw'
    rw [unw hw', List.nil_append]
    unfold pl1 at q
    rw [List.map_map] at q
    exact q
theorem lc_2 (h1 : ρ[hs]? = some (.fz (.int (h : Nat)))) (h2 : ρ[ws]? = some (.fz (.int (w : Nat)))) (n1 : ws ≠ o) (hh : h ≤ 1000) (ht : o < ρ.length) (q : Q (.o (.ow ((pl2 h w).map placeD))) ρ) :
    mLc (iRange1 (lCons (mVar hs) lNil)) (gN o) mYes [o] (kElt (mTup (lCons (mVar o) (lCons (mVar ws) lNil)))) ρ Q Xx := by
  simp only [mLc, iRange1, lCons, lNil, mVar, h1, cap_v, onC_s]
  refine ⟨by omega, ?_⟩
  rw [Int.toNat_natCast]
  refine lvl_mapS (fun u : Nat => placeD (((u : Nat) : Int), ((w : Nat) : Int))) (by rw [List.length_range, List.length_nil, sizeLine_eq]; omega) ?_ ?_
  · intro u hu acc hl kt hk
    have e1 : ((wipeD (wipeD ρ [o]) [o]).set o (.fz (.int (0 + (u : Nat)))))[ws]? = some (.fz (.int (w : Nat))) := by
      rw [List.getElem?_set_ne (Ne.symm n1), wipeD_out (by simpa using n1), wipeD_out (by simpa using n1), h2]
    have e2 : ((wipeD (wipeD ρ [o]) [o]).set o (.fz (.int (0 + (u : Nat)))))[o]? = some (.fz (.int (0 + (u : Nat)))) := by
      rw [List.getElem?_set_self (by rw [wipeD_length, wipeD_length]; exact ht)]
    simp only [gN, mYes, if_true, kElt, mTup, lCons, lNil, mVar, e1, e2, cap_v, onC_s, List.length_cons, List.length_nil]
    refine ⟨by rw [sizeLine_eq]; decide, hl, ?_⟩
    have := hk ((wipeD (wipeD ρ [o]) [o]).set o (.fz (.int (0 + (u : Nat))))) (by rw [wipeD_set (by simp), wipeD_wipeD])
    rw [Int.zero_add] at this ⊢
    exact this
  · intro ρ' hw'
    rw [unw hw', List.nil_append]
    unfold pl2 at q
    rw [List.map_map] at q
    exact q
theorem plR_len (h w : Nat) : (plR h w).length = h * w := by
  have : ∀ l : List Nat, (l.flatMap fun u => (List.range w).map fun l => (((u : Nat) : Int), ((l : Nat) : Int))).length = l.length * w := fun l => by
    induction l with
    | nil => simp
    | cons x l ih => rw [List.flatMap_cons, List.length_append, ih, List.length_map, List.length_range, List.length_cons, Nat.succ_mul]; omega
  unfold plR
  rw [this, List.length_range]
theorem lc_R (h1 : ρ[hs]? = some (.fz (.int (h : Nat)))) (h2 : ρ[ws]? = some (.fz (.int (w : Nat)))) (n1 : ws ≠ o) (n2 : ws ≠ t) (n3 : o ≠ t) (hh : h ≤ 1000) (hw : w ≤ 1000) (ho : o < ρ.length) (ht : t < ρ.length) (q : Q (.o (.ow ((plR h w).map placeD))) ρ) :
    mLc (iRange1 (lCons (mVar hs) lNil)) (gN o) mYes [o, t] (kNext (iRange1 (lCons (mVar ws) lNil)) (gN t) mYes [t] (kElt (mTup (lCons (mVar o) (lCons (mVar t) lNil))))) ρ Q Xx := by
  simp only [mLc, iRange1, lCons, lNil, mVar, h1, cap_v, onC_s]
  refine ⟨by omega, ?_⟩
  rw [Int.toNat_natCast]
  have el : ((List.range h).flatMap fun u : Nat => (List.range w).map fun v : Nat => placeD (((u : Nat) : Int), ((v : Nat) : Int))) = (plR h w).map placeD := by
    unfold plR
    rw [List.map_flatMap]
    simp only [List.map_map]
    rfl
  refine lvl_flatS (fun u : Nat => (List.range w).map fun v : Nat => placeD (((u : Nat) : Int), ((v : Nat) : Int))) (by
    rw [el, List.length_map, plR_len, List.length_nil, sizeLine_eq]
    have := Nat.mul_le_mul hh hw
    omega) ?_ ?_
  · intro u hu acc hl kt hk
    rw [List.length_map, List.length_range] at hl
    have e0 : ((wipeD (wipeD ρ [o, t]) [o, t]).set o (.fz (.int (0 + (u : Nat)))))[ws]? = some (.fz (.int (w : Nat))) := by
      rw [List.getElem?_set_ne (Ne.symm n1), wipeD_out (by simpa using ⟨n1, n2⟩), wipeD_out (by simpa using ⟨n1, n2⟩), h2]
    simp only [gN, mYes, if_true, kNext, iRange1, lCons, lNil, mVar, e0, cap_v, onC_s]
    refine ⟨by omega, ?_⟩
    rw [Int.toNat_natCast]
    refine lvl_mapS (fun v : Nat => placeD (((u : Nat) : Int), ((v : Nat) : Int))) (by rw [List.length_range]; exact hl) ?_ ?_
    · intro v hv acc2 hl2 kt2 hk2
      have ln : (wipeD ((wipeD (wipeD ρ [o, t]) [o, t]).set o (.fz (.int (0 + (u : Nat))))) [t]).length = ρ.length := by
        rw [wipeD_length, List.length_set, wipeD_length, wipeD_length]
      have e1 : ((wipeD ((wipeD (wipeD ρ [o, t]) [o, t]).set o (.fz (.int (0 + (u : Nat))))) [t]).set t (.fz (.int (0 + (v : Nat)))))[o]? = some (.fz (.int (0 + (u : Nat)))) := by
        rw [List.getElem?_set_ne (Ne.symm n3), wipeD_out (by simpa using n3), List.getElem?_set_self (by rw [wipeD_length, wipeD_length]; exact ho)]
      have e2 : ((wipeD ((wipeD (wipeD ρ [o, t]) [o, t]).set o (.fz (.int (0 + (u : Nat))))) [t]).set t (.fz (.int (0 + (v : Nat)))))[t]? = some (.fz (.int (0 + (v : Nat)))) := by
        rw [List.getElem?_set_self (by rw [ln]; exact ht)]
      simp only [kElt, mTup, lCons, lNil, mVar, gN, mYes, if_true, e1, e2, cap_v, onC_s, List.length_cons, List.length_nil]
      refine ⟨by rw [sizeLine_eq]; decide, hl2, ?_⟩
      have := hk2 ((wipeD ((wipeD (wipeD ρ [o, t]) [o, t]).set o (.fz (.int (0 + (u : Nat))))) [t]).set t (.fz (.int (0 + (v : Nat))))) (by rw [wipeD_set (by simp), wipeD_wipeD])
      simp only [Int.zero_add] at this ⊢
      exact this
    · intro ρ' hw'
      refine hk _ ?_
      rw [wipeD_sub (by simp)]
      have e3 : wipeD ρ' [o, t] = wipeD (wipeD ρ' [t]) [o, t] := (wipeD_sub (by simp)).symm
      rw [e3, hw', wipeD_sub (by simp), wipeD_set (by simp), wipeD_wipeD]
  · intro ρ' hw'
    rw [unw hw', List.nil_append, el]
    exact q
end
end BB
namespace BB
open PySem PySem.Spec PyProof.Rows L2
/-! ### corners -/
structure Cor where
  whole : List Int
  upper : List Int
  left : List Int
  both : List Int
  down : Nat
  along : Nat
def cLater (s : Sys) (b : Nat) (c : Cor) : List Int := addL (addL (sumsL s (plR (c.down % b) (c.along % b)) c.whole) (sumsL s (pl1 (c.down % b) (c.along % b)) c.upper)) (sumsL s (pl2 (c.down % b) (c.along % b)) c.left)
def corStep (s : Sys) (b : Nat) (c : Cor) : Cor where
  whole := sumsL s (allPl b) c.whole
  upper := addL (sumsL s (plR (c.down % b) b) c.whole) (sumsL s (pl1 (c.down % b) b) c.upper)
  left := addL (sumsL s (plR b (c.along % b)) c.whole) (sumsL s (pl2 b (c.along % b)) c.left)
  both := addL (cLater s b c) (folL s c.both (((c.down % b : Nat) : Int), ((c.along % b : Nat) : Int)))
  down := c.down / b
  along := c.along / b
def cor0 (s : Sys) (r c : Nat) : Cor := ⟨s.starts, List.replicate s.starts.length 0, List.replicate s.starts.length 0, List.replicate s.starts.length 0, r, c⟩
def corN (s : Sys) (b : Nat) (r c : Nat) : Nat → Cor
  | 0 => cor0 s r c
  | n + 1 => corStep s b (corN s b r c n)
def corEnd (c : Cor) : List Int := if 0 < c.down then (if 0 < c.along then c.whole else c.left) else if 0 < c.along then c.upper else c.both
structure CorOk (n k : Nat) (c : Cor) : Prop where
  w : c.whole.length = n ∧ Bd k c.whole
  u : c.upper.length = n ∧ Bd k c.upper
  l : c.left.length = n ∧ Bd k c.left
  b : c.both.length = n ∧ Bd k c.both
theorem bd_add : ∀ {xs ys : List Int} {k : Nat}, Bd k xs → Bd k ys → Bd (k + 1) (addL xs ys)
  | [], _, _, _, _ => fun x hx => by cases hx
  | _ :: _, [], _, _, _ => fun x hx => by cases hx
  | x :: xs, y :: ys, k, h, h' => fun z hz => by
    rcases List.mem_cons.mp (show z ∈ (x + y) :: addL xs ys from hz) with rfl | hz
    · have h1 := h x List.mem_cons_self
      have h2 := h' y List.mem_cons_self
      rw [Nat.pow_succ]
      omega
    · exact bd_add (fun w hw => h w (List.mem_cons_of_mem _ hw)) (fun w hw => h' w (List.mem_cons_of_mem _ hw)) z hz
theorem add_ok {xs ys : List Int} {n k : Nat} (h : xs.length = n ∧ Bd k xs) (h' : ys.length = n ∧ Bd k ys) : (addL xs ys).length = n ∧ Bd (k + 1) (addL xs ys) := ⟨by rw [addL_len, h.1, h'.1, Nat.min_self], bd_add h.2 h'.2⟩
theorem pl1_in {s : Sys} {b u w : Nat} (hm : s.mats.length = b) (hu : u < b) (hw : w ≤ b) {p : Int × Int} (hp : p ∈ pl1 u w) : InB s p := by
  unfold pl1 at hp
  obtain ⟨t, ht, rfl⟩ := List.mem_map.mp hp
  rw [List.mem_range] at ht
  exact ⟨by simp only; omega, by simp only; omega, by simp only; omega, by simp only; omega⟩
theorem pl2_in {s : Sys} {b h l : Nat} (hm : s.mats.length = b) (hl : l < b) (hh : h ≤ b) {p : Int × Int} (hp : p ∈ pl2 h l) : InB s p := by
  unfold pl2 at hp
  obtain ⟨t, ht, rfl⟩ := List.mem_map.mp hp
  rw [List.mem_range] at ht
  exact ⟨by simp only; omega, by simp only; omega, by simp only; omega, by simp only; omega⟩
theorem plR_in {s : Sys} {b h w : Nat} (hm : s.mats.length = b) (hh : h ≤ b) (hw : w ≤ b) {p : Int × Int} (hp : p ∈ plR h w) : InB s p := by
  unfold plR at hp
  obtain ⟨u, hu, hp⟩ := List.mem_flatMap.mp hp
  obtain ⟨l, hl, rfl⟩ := List.mem_map.mp hp
  rw [List.mem_range] at hu hl
  exact ⟨by simp only; omega, by simp only; omega, by simp only; omega, by simp only; omega⟩
theorem plR16 {b h w : Nat} (hb : b ≤ 3) (hh : h ≤ b) (hw : w ≤ b) : (plR h w).length ≤ 16 := by
  rw [plR_len]
  have := Nat.mul_le_mul (Nat.le_trans hh hb) (Nat.le_trans hw hb)
  omega
theorem pl1_len (u w : Nat) : (pl1 u w).length = w := by unfold pl1; simp
theorem pl2_len (h l : Nat) : (pl2 h l).length = h := by unfold pl2; simp
section
variable {s : Sys} {n a b k : Nat} {c : Cor}
theorem CorOk.later (hs : SysOk s n a) (hm : s.mats.length = b) (h1 : 1 ≤ b) (hb : b ≤ 3) (h : CorOk n k c) : (sumsL s (plR (c.down % b) (c.along % b)) c.whole).length = n ∧ (addL (sumsL s (plR (c.down % b) (c.along % b)) c.whole) (sumsL s (pl1 (c.down % b) (c.along % b)) c.upper)).length = n ∧
    (cLater s b c).length = n ∧ Bd (k + (a + 15) + 2) (cLater s b c) := by
  have hd := Nat.mod_lt c.down h1
  have ha := Nat.mod_lt c.along h1
  have s1 := hs.sums h.w.2 h.w.1 (ps := plR (c.down % b) (c.along % b)) (fun p hp => plR_in hm (by omega) (by omega) hp) (plR16 hb (by omega) (by omega))
  have s2 := hs.sums h.u.2 h.u.1 (ps := pl1 (c.down % b) (c.along % b)) (fun p hp => pl1_in hm hd (by omega) hp) (by rw [pl1_len]; omega)
  have s3 := hs.sums h.l.2 h.l.1 (ps := pl2 (c.down % b) (c.along % b)) (fun p hp => pl2_in hm ha (by omega) hp) (by rw [pl2_len]; omega)
  have t1 := add_ok s1 s2
  have t2 := add_ok t1 ⟨s3.1, s3.2.mono (by omega)⟩
  exact ⟨s1.1, t1.1, t2.1, t2.2⟩
theorem CorOk.step (hs : SysOk s n a) (hm : s.mats.length = b) (h1 : 1 ≤ b) (hb : b ≤ 3) (h : CorOk n k c) : CorOk n (k + (a + 18)) (corStep s b c) := by
  have hd := Nat.mod_lt c.down h1
  have ha := Nat.mod_lt c.along h1
  have sw := hs.sums h.w.2 h.w.1 (ps := allPl b) (fun p hp => allPl_in hm hp) (sq16 hb)
  have su1 := hs.sums h.w.2 h.w.1 (ps := plR (c.down % b) b) (fun p hp => plR_in hm (by omega) (by omega) hp) (plR16 hb (by omega) (by omega))
  have su2 := hs.sums h.u.2 h.u.1 (ps := pl1 (c.down % b) b) (fun p hp => pl1_in hm hd (by omega) hp) (by rw [pl1_len]; omega)
  have sl1 := hs.sums h.w.2 h.w.1 (ps := plR b (c.along % b)) (fun p hp => plR_in hm (by omega) (by omega) hp) (plR16 hb (by omega) (by omega))
  have sl2 := hs.sums h.l.2 h.l.1 (ps := pl2 b (c.along % b)) (fun p hp => pl2_in hm ha (by omega) hp) (by rw [pl2_len]; omega)
  obtain ⟨_, _, l1, l2⟩ := h.later hs hm h1 hb
  have f := hs.fol h.b.2 (p := (((c.down % b : Nat) : Int), ((c.along % b : Nat) : Int))) ⟨by simp only; omega, by simp only; omega, by simp only; omega, by simp only; omega⟩
  refine ⟨⟨sw.1, sw.2.mono (by omega)⟩, ?_, ?_, ?_⟩
  · have := add_ok su1 su2
    exact ⟨this.1, this.2.mono (by omega)⟩
  · have := add_ok sl1 sl2
    exact ⟨this.1, this.2.mono (by omega)⟩
  · have := add_ok ⟨l1, l2⟩ ⟨f.1, f.2.bd.mono (by omega)⟩
    exact ⟨this.1, this.2.mono (by omega)⟩
theorem corN_ok (hs : SysOk s n a) (hst : Bd k s.starts) (hm : s.mats.length = b) (h1 : 1 ≤ b) (hb : b ≤ 3) (r c : Nat) : ∀ t, CorOk n (k + t * (a + 18)) (corN s b r c t)
  | 0 => by
    have z : ∀ m, Bd m (List.replicate s.starts.length (0 : Int)) := fun m x hx => by
      rw [List.eq_of_mem_replicate hx]
      exact Nat.pow_pos (by decide)
    have zl : (List.replicate s.starts.length (0 : Int)).length = n := by rw [List.length_replicate]; exact hs.st
    rw [Nat.zero_mul]
    exact ⟨⟨hs.st, hst⟩, ⟨zl, z _⟩, ⟨zl, z _⟩, ⟨zl, z _⟩⟩
  | t + 1 => by
    have := (corN_ok hs hst hm h1 hb r c t).step hs hm h1 hb
    rw [Nat.succ_mul, ← Nat.add_assoc]
    exact this
end
theorem fmod_nat (x y : Nat) : Int.fmod (x : Int) (y : Int) = ((x % y : Nat) : Int) := by
  rw [Int.fmod_eq_emod_of_nonneg _ (by omega)]
  rfl
theorem fdiv_nat (x y : Nat) : Int.fdiv (x : Int) (y : Int) = ((x / y : Nat) : Int) := by
  rw [Int.fdiv_eq_ediv_of_nonneg _ (by omega)]
  rfl
end BB
namespace BB
open PySem PySem.Spec PyProof.Rows L2
theorem sysf_no {f : Str} (s : Sys) (h1 : ¬ f = ("starts" : Str)) (h2 : ¬ f = ("matrices" : Str)) (h3 : ¬ f = ("factors" : Str)) : (sysF s).lookup f = none :=
  lookup_no h1 (lookup_no h2 (lookup_no h3 rfl))
end BB
namespace BB
open PySem PySem.Spec PyProof.Rows L2
theorem cdiv_b {i : Int} {b : Nat} (h1 : 1 ≤ b) (h3 : b ≤ 3) : CDivA i (b : Int) := by
  refine ⟨by omega, ?_⟩
  rw [Int.natAbs_natCast]
  have : b.log2 < 2 := by
    rw [Nat.log2_lt (by omega)]
    omega
  omega
end BB
namespace BB
open PySem PySem.Spec PyProof.Rows L2
def cornL (s : Sys) (b lv r c : Nat) : Int := dotL s.facs (corEnd (corN s b r c lv))
def areaL (s : Sys) (b lv r0 c0 r1 c1 : Nat) : Int := cornL s b lv (r1 + 1) (c1 + 1) - cornL s b lv r0 (c1 + 1) - cornL s b lv (r1 + 1) c0 + cornL s b lv r0 c0
end BB
namespace BB
open PySem PySem.Spec PyProof.Rows L2
theorem atI_c0 {α : Type} {x : α} {xs : List α} : atI (x :: xs) 0 = some x := atI_nat (u := 0) rfl
theorem atI_c1 {α : Type} {x y : α} {xs : List α} : atI (x :: y :: xs) 1 = some y := atI_nat (u := 1) rfl
theorem atI_c2 {α : Type} {x y z : α} {xs : List α} : atI (x :: y :: z :: xs) 2 = some z := atI_nat (u := 2) rfl
theorem atI_c3 {α : Type} {x y z w : α} {xs : List α} : atI (x :: y :: z :: w :: xs) 3 = some w := atI_nat (u := 3) rfl
theorem loop_step {g : MG} {mb : MS} {x : D} {xs : List D} {ρ : DE} {E : ME} (h : ∀ kt : DE → Prop, (∀ ρ', loopD g mb xs ρ' E → kt ρ') → g x ρ fun ρ1 => mb ρ1 { nx := kt, ct := kt, bk := E.nx, rt := E.rt, ex := E.ex }) : loopD g mb (x :: xs) ρ E := h _ fun _ z => z
/-- the four corners of a rectangle -/
structure Qd where
  sg : Int
  x : Int
  y : Int
  r : Nat
  c : Nat
def quads (r0 c0 r1 c1 : Nat) : List Qd := [⟨1, 1, 1, r1 + 1, c1 + 1⟩, ⟨-1, 0, 1, r0, c1 + 1⟩, ⟨-1, 1, 0, r1 + 1, c0⟩, ⟨1, 0, 0, r0, c0⟩]
def quadD (q : Qd) : D := .tup [.int q.sg, .tup [.int q.x, .int q.y]]
def quadS (s : Sys) (b lv : Nat) (l : List Qd) : Int := (l.map fun q => q.sg * cornL s b lv q.r q.c).sum
theorem quads_area (s : Sys) (b lv r0 c0 r1 c1 : Nat) : quadS s b lv (quads r0 c0 r1 c1) = areaL s b lv r0 c0 r1 c1 := by
  unfold quadS quads areaL
  simp only [List.map_cons, List.map_nil, List.sum_cons, List.sum_nil]
  omega
theorem quadS_step {s : Sys} {b lv i : Nat} {l : List Qd} {q : Qd} (h : l[i]? = some q) : quadS s b lv (l.take (i + 1)) = quadS s b lv (l.take i) + q.sg * cornL s b lv q.r q.c := by
  unfold quadS
  rw [List.take_add_one, h, List.map_append, List.sum_append]
  simp
end BB
namespace BB
open PySem PySem.Spec PyProof.Rows L2
theorem sz1 : (1 ≤ sizeLine) = True := by rw [sizeLine_eq]; decide
theorem sz0 : (0 ≤ sizeLine) = True := by rw [sizeLine_eq]; decide
theorem sz2 : (1 + 1 ≤ sizeLine) = True := by rw [sizeLine_eq]; decide
theorem sz3 : (1 + 1 + 1 ≤ sizeLine) = True := by rw [sizeLine_eq]; decide
theorem sz4 : (1 + 1 + 1 + 1 ≤ sizeLine) = True := by rw [sizeLine_eq]; decide
theorem sz5 : (1 + 1 + 1 + 1 + 1 ≤ sizeLine) = True := by rw [sizeLine_eq]; decide
theorem sz6 : (1 + 1 + 1 + 1 + 1 + 1 ≤ sizeLine) = True := by rw [sizeLine_eq]; decide
theorem sz7 : (1 + 1 + 1 + 1 + 1 + 1 + 1 ≤ sizeLine) = True := by rw [sizeLine_eq]; decide
theorem quad_at {r0 c0 r1 c1 : Nat} {q : Qd} (h : q ∈ quads r0 c0 r1 c1) : atI [D.int (r0 : Nat), D.int ((r1 : Nat) + 1)] q.x = some (.int (q.r : Nat)) ∧ atI [D.int (c0 : Nat), D.int ((c1 : Nat) + 1)] q.y = some (.int (q.c : Nat)) ∧ (q.r ≤ r0 ∨ q.r ≤ r1 + 1) ∧ (q.c ≤ c0 ∨ q.c ≤ c1 + 1) ∧ q.sg.natAbs ≤ 1 := by
  unfold quads at h
  simp only [List.mem_cons, List.not_mem_nil, or_false] at h
  rcases h with rfl | rfl | rfl | rfl <;> exact ⟨by first | exact atI_c1 | exact atI_c0, by first | exact atI_c1 | exact atI_c0, by simp, by simp, by simp⟩
theorem corEnd_ok {n k : Nat} {c : Cor} (h : CorOk n k c) : (corEnd c).length = n ∧ Bd k (corEnd c) := by
  unfold corEnd
  split <;> split
  · exact h.w
  · exact h.l
  · exact h.u
  · exact h.b
end BB
namespace BB
open PySem PySem.Spec PyProof.Rows L2
def lettersS : Str := "abcdefghijklmnopqrstuvwxyz"
def isNm (x : Str) : Bool := decide ((x.length : Int) = 1) && strIn x lettersS
theorem fIn_ss (neg : Bool) (x y : Str) (Q : RV → Prop) : fIn neg (.str x) (.str y) Q = Q (.v (.bl (if neg then !(strIn x y) else strIn x y))) := rfl
def flatF (f : Form) : List Str := f.map fun c => c.2
def othersL (bl : List (List Form)) : List Str := bl.flatMap fun l => l.flatMap flatF
/-- a book as it may be told -/
structure BookIn (b : Nat) (ls : List Line) : Prop where
  ok : BookOk b ls
  two : 2 ≤ b
  nd : (nmsOf ls).Nodup
  nam : ∀ x, x ∈ nmsOf ls → isNm x = true
  sz : ∀ x, x ∈ nmsOf ls → x.length ≤ sizeLine
  fl : ∀ x, x ∈ ls → ∀ r, r ∈ x.2.2 → ∀ f, f ∈ r → f.length ≤ 1000
theorem flat_len {α β : Type} {f : α → List β} {n : Nat} : ∀ {l : List α}, (∀ x, x ∈ l → (f x).length ≤ n) → (l.flatMap f).length ≤ l.length * n
  | [], _ => by simp
  | x :: l, h => by
    rw [List.flatMap_cons, List.length_append, List.length_cons, Nat.succ_mul]
    have h1 := h x List.mem_cons_self
    have h2 := flat_len (l := l) fun y hy => h y (List.mem_cons_of_mem _ hy)
    omega
theorem BookIn.oth {b : Nat} {ls : List Line} (h : BookIn b ls) {x : Line} (hx : x ∈ ls) : (othersL x.2.2).length ≤ 9000 ∧ ∀ o, o ∈ othersL x.2.2 → o ∈ nmsOf ls := by
  obtain ⟨s1, s2⟩ := h.ok.sq x hx
  have hb := h.ok.base
  have l1 : ∀ r, r ∈ x.2.2 → (r.flatMap flatF).length ≤ 3000 := fun r hr => by
    have := flat_len (l := r) (f := flatF) (n := 1000) fun f hf => by unfold flatF; rw [List.length_map]; exact h.fl x hx r hr f hf
    rw [s2 r hr] at this
    have h3 : b * 1000 ≤ 3 * 1000 := Nat.mul_le_mul_right _ hb
    omega
  refine ⟨?_, fun o ho => ?_⟩
  · have := flat_len l1
    rw [s1] at this
    have h3 : b * 3000 ≤ 3 * 3000 := Nat.mul_le_mul_right _ hb
    have e : (othersL x.2.2).length = (x.2.2.flatMap fun r => r.flatMap flatF).length := rfl
    have e2 : (x.2.2.flatMap fun r => r.flatMap flatF).length = (List.flatMap (List.flatMap flatF) x.2.2).length := rfl
    rw [e, e2]
    omega
  · unfold othersL at ho
    obtain ⟨r, hr, ho⟩ := List.mem_flatMap.mp ho
    obtain ⟨f, hf, ho⟩ := List.mem_flatMap.mp ho
    unfold flatF at ho
    obtain ⟨c, hc, rfl⟩ := List.mem_map.mp ho
    exact h.ok.fm x hx r hr f hf c hc
end BB
namespace BB
open PySem PySem.Spec PyProof.Rows L2
theorem not_take {α : Type} {l : List α} {i : Nat} {x : α} (h : l.Nodup) (hx : l[i]? = some x) : x ∉ l.take i := fun hm => by
  obtain ⟨j, hj, e⟩ := List.mem_take_iff_getElem.mp hm
  obtain ⟨hi, e'⟩ := List.getElem?_eq_some_iff.mp hx
  have hp := List.pairwise_iff_getElem.mp h j i (by omega) hi (by omega)
  exact hp (e.trans e'.symm)
theorem nms_map (ls : List Line) : (ls.map fun x => D.str x.1) = (nmsOf ls).map D.str := by
  unfold nmsOf
  rw [List.map_map]
  rfl
theorem nms_get {ls : List Line} {i : Nat} {x : Line} (h : ls[i]? = some x) : (nmsOf ls)[i]? = some x.1 := by
  unfold nmsOf
  rw [List.getElem?_map, h]
  rfl
theorem take_step {α : Type} {l : List α} {i : Nat} {x : α} (h : l[i]? = some x) : l.take (i + 1) = l.take i ++ [x] := by
  rw [List.take_add_one, h]
  rfl
theorem bls_all (l : List α) (p : α → Bool) : blsOf (l.map fun x => D.bl (p x)) = some (l.map p) := by
  have : (l.map fun x => D.bl (p x)) = (l.map p).map D.bl := by rw [List.map_map]; rfl
  rw [this, blsOf_map]
theorem all_true {α : Type} {l : List α} {p : α → Bool} (h : ∀ x, x ∈ l → p x = true) : (l.map p).all id = true := by
  rw [List.all_eq_true]
  intro y hy
  obtain ⟨x, hx, rfl⟩ := List.mem_map.mp hy
  exact h x hx
end BB
namespace BB
open PySem PySem.Spec PyProof.Rows L2
theorem oth1 (r : List Form) : (r.flatMap fun f => (flatF f).map D.str) = (r.flatMap flatF).map D.str := by rw [List.map_flatMap]
theorem oth2 (bl : List (List Form)) : (bl.flatMap fun r => (r.flatMap flatF).map D.str) = (othersL bl).map D.str := by
  unfold othersL
  rw [List.map_flatMap]
theorem flatF_map (f : Form) : (f.map fun c => D.str c.2) = (flatF f).map D.str := by
  unfold flatF
  rw [List.map_map]
  rfl
end BB
namespace BB
open PySem PySem.Spec PyProof.Rows L2
theorem fIn_bases {b : Nat} (h2 : 2 ≤ b) (h3 : b ≤ 3) (Q : RV → Prop) : fIn true (.int (b : Nat)) (.tup [.int 2, .int 3]) Q = Q (.v (.bl false)) := by
  have hb : b = 2 ∨ b = 3 := by omega
  rcases hb with rfl | rfl
  · exact propext ⟨fun h => h.2, fun h => ⟨by decide, h⟩⟩
  · exact propext ⟨fun h => h.2, fun h => ⟨by decide, h⟩⟩
theorem put_book (a b : D) : putFD ("kept" : Str) b (putFD ("radix" : Str) a []) = [(("radix" : Str), a), (("kept" : Str), b)] := rfl
theorem put_table (a b : D) : putFD ("parts" : Str) b (putFD ("told_by" : Str) a []) = [(("told_by" : Str), a), (("parts" : Str), b)] := rfl
def unitL (n k : Nat) : List Int := (List.range n).map fun j : Nat => if decide (((k : Nat) : Int) = ((j : Nat) : Int)) = true then 1 else 0
end BB
namespace BB
open PySem PySem.Spec PyProof.Rows L2
/-! ### drawing -/
def PoolAt (c : Int) (s : SV) : Prop := ∃ p0 p1 p2 : Int, s = .ow [.int p0, .int p1, .int p2] ∧ 0 ≤ p0 ∧ 0 ≤ p1 ∧ p1 < 2 ^ 62 ∧ 0 ≤ p2 ∧ p2 ≤ c
theorem PoolAt.mono {c c' : Int} {s : SV} (h : PoolAt c s) (l : c ≤ c') : PoolAt c' s := by
  obtain ⟨p0, p1, p2, e, h0, h1, h2, h3, h4⟩ := h
  exact ⟨p0, p1, p2, e, h0, h1, h2, h3, by omega⟩
theorem ix3_0 : ixN (1 + 1 + 1) 0 = some 0 := rfl
theorem ix3_2 : ixN (1 + 1 + 1) 2 = some 2 := rfl
theorem cpow3 {i : Int} (h : i.natAbs < 2 ^ 250) : CPowA i 3 := by
  refine ⟨by decide, ?_⟩
  have hb : Builtin.Int.intBits i ≤ 251 := by
    unfold Builtin.Int.intBits
    split
    · exact Nat.zero_le _
    · rename_i h0
      have : i.natAbs ≠ 0 := by
        intro e
        exact h0 (by rw [Int.natAbs_eq_zero.mp e]; rfl)
      have := (Nat.log2_lt this).mpr h
      omega
  have : (Builtin.Int.intBits i : Int) ≤ 251 := by exact_mod_cast hb
  have e : (2 : Int) ^ 27 = 134217728 := by decide
  rw [e]
  omega
theorem fmod_rng {i : Int} {m : Int} (h : 0 < m) : 0 ≤ i.fmod m ∧ i.fmod m < m := ⟨Int.fmod_nonneg_of_pos _ h, Int.fmod_lt_of_pos _ h⟩
theorem fdiv_rng {i : Int} {m : Int} (h0 : 0 ≤ i) (h : 0 < m) : 0 ≤ i.fdiv m := by
  rw [Int.fdiv_eq_ediv_of_nonneg _ (by omega)]
  exact Int.ediv_nonneg h0 (by omega)
theorem natAbs_lt {i : Int} {n : Nat} (h0 : 0 ≤ i) (h : i < (n : Int)) : i.natAbs < n := by omega
theorem log_small {m : Int} {k : Nat} (h0 : 0 < m) (h : m < 2 ^ k) : m.natAbs.log2 < k := by
  have hne : m.natAbs ≠ 0 := by omega
  rw [Nat.log2_lt hne]
  have : ((2 ^ k : Nat) : Int) = (2 : Int) ^ k := by rw [Int.natCast_pow]; rfl
  omega
end BB
namespace BB
open PySem PySem.Spec PyProof.Rows L2
theorem small_pow {b : Int} {n : Nat} (h0 : 0 ≤ b) (h1 : b ≤ 10) (hn : n < 10000) : CMulW (b ^ n) b := by
  refine mulW (a := 4 * n + 1) (b := 4) ?_ ?_ (by omega)
  · rw [Int.natAbs_pow, Nat.pow_succ, Nat.pow_mul]
    have h := Nat.pow_le_pow_left (show b.natAbs ≤ 2 ^ 4 by omega) n
    have : 0 < (2 ^ 4) ^ n := Nat.pow_pos (by decide)
    omega
  · show b.natAbs < 16
    omega
end BB
namespace BB
open PySem PySem.Spec PyProof.Rows L2
theorem log_pow {b dp : Nat} (hb : 2 ≤ b) (h4 : b ≤ 10) (h : dp ≤ 200) : (((b ^ dp : Nat) : Int)).natAbs.log2 < 9000 := by
  have hpos : b ^ dp ≠ 0 := Nat.pos_iff_ne_zero.mp (Nat.pow_pos (by omega))
  rw [Int.natAbs_natCast, Nat.log2_lt hpos]
  have e1 := Nat.pow_le_pow_left (show b ≤ 2 ^ 4 by omega) dp
  rw [← Nat.pow_mul] at e1
  exact Nat.lt_of_le_of_lt e1 (Nat.pow_lt_pow_right (by decide) (by omega))
end BB
namespace BB
open PySem PySem.Spec PyProof.Rows L2
theorem atI_c4 {α : Type} {x y z w v : α} {xs : List α} : atI (x :: y :: z :: w :: v :: xs) 4 = some v := atI_nat (u := 4) rfl
end BB

namespace BB
open PySem PySem.Spec PyProof.Rows L2
/-! ### the well known lines -/
def f1 (x : Str) : Form := [(1, x)]
def kI : Line := ("i", 1, [[f1 "i", []], [[], f1 "i"]])
def kP : Line := ("p", 1, [[[(2, "p")], [(2, "p")]], [[(2, "p")], [(2, "p")]]])
def kD : Line := ("d", 1, [[[(2, "d")], []], [[], [(2, "d")]]])
def kH : Line := ("h", 1, [[f1 "h", f1 "h"], [f1 "h", [(-1, "h")]]])
def kS : Line := ("s", 1, [[f1 "s", []], [f1 "s", f1 "s"]])
def kM : Line := ("m", 1, [[f1 "m", []], [[(-1, "m")], f1 "m"]])
def kE : Line := ("e", 1, [[[], f1 "e"], [f1 "e", []]])
def kX : Line := ("x", 0, [[f1 "x", f1 "x" ++ f1 "p"], [f1 "x" ++ f1 "p", f1 "x"]])
def kN : Line := ("n", 0, [[f1 "n", f1 "n"], [f1 "n", f1 "n" ++ f1 "p"]])
def kR : Line := ("r", 0, [[f1 "r", f1 "r"], [f1 "r" ++ f1 "p", f1 "r" ++ f1 "p"]])
def kC : Line := ("c", 0, [[f1 "c", f1 "c" ++ f1 "p"], [f1 "c", f1 "c" ++ f1 "p"]])
def knownLs : List Line := [kI, kP, kD, kH, kS, kM, kE, kX, kN, kR, kC]
end BB
namespace BB
open PySem PySem.Spec PyProof.Rows L2
theorem pairs_lines : ∀ ls : List Line, pairsOf (ls.map fun l => .tup [.str l.1, lineL l]) = some (ls.map fun l => (Sum.inr l.1, lineL l))
  | [] => rfl
  | l :: ls => by
    rw [List.map_cons]
    unfold pairsOf
    rw [pairs_lines ls]
    rfl
def knownD : List (Key × D) := mergeD [] (knownLs.map fun l => (Sum.inr l.1, lineL l))
theorem val_known {l : Line} (h : l ∈ knownLs) : valD knownD (.inr l.1) = some (lineL l) := by
  unfold knownLs at h
  simp only [List.mem_cons, List.not_mem_nil, or_false] at h
  rcases h with rfl | rfl | rfl | rfl | rfl | rfl | rfl | rfl | rfl | rfl | rfl <;> rfl
end BB

namespace BB
open PySem PySem.Spec PyProof.Rows L2
def signsLs : List Line := [kH, kS, kM, kI, kD, kE]
def bitsLs : List Line := [kX, kN, kR, kC, kP]
abbrev sgS (sh : List Int) : Sys := sysOf 2 signsLs sh
abbrev btS (sh : List Int) : Sys := sysOf 2 bitsLs sh
theorem all2 : allPl 2 = [(0, 0), (0, 1), (1, 0), (1, 1)] := rfl
theorem diag2 : diagPl 2 = [(0, 0), (1, 1)] := rfl
theorem sg00 (sh : List Int) : matAt (sgS sh) 0 0 = [[1, 0, 0, 0, 0, 0], [0, 1, 0, 0, 0, 0], [0, 0, 1, 0, 0, 0], [0, 0, 0, 1, 0, 0], [0, 0, 0, 0, 2, 0], [0, 0, 0, 0, 0, 0]] := rfl
theorem sg01 (sh : List Int) : matAt (sgS sh) 0 1 = [[1, 0, 0, 0, 0, 0], [0, 0, 0, 0, 0, 0], [0, 0, 0, 0, 0, 0], [0, 0, 0, 0, 0, 0], [0, 0, 0, 0, 0, 0], [0, 0, 0, 0, 0, 1]] := rfl
theorem sg10 (sh : List Int) : matAt (sgS sh) 1 0 = [[1, 0, 0, 0, 0, 0], [0, 1, 0, 0, 0, 0], [0, 0, -1, 0, 0, 0], [0, 0, 0, 0, 0, 0], [0, 0, 0, 0, 0, 0], [0, 0, 0, 0, 0, 1]] := rfl
theorem sg11 (sh : List Int) : matAt (sgS sh) 1 1 = [[-1, 0, 0, 0, 0, 0], [0, 1, 0, 0, 0, 0], [0, 0, 1, 0, 0, 0], [0, 0, 0, 1, 0, 0], [0, 0, 0, 0, 2, 0], [0, 0, 0, 0, 0, 0]] := rfl
theorem bt00 (sh : List Int) : matAt (btS sh) 0 0 = [[1, 0, 0, 0, 0], [0, 1, 0, 0, 0], [0, 0, 1, 0, 0], [0, 0, 0, 1, 0], [0, 0, 0, 0, 2]] := rfl
theorem bt01 (sh : List Int) : matAt (btS sh) 0 1 = [[1, 0, 0, 0, 1], [0, 1, 0, 0, 0], [0, 0, 1, 0, 0], [0, 0, 0, 1, 1], [0, 0, 0, 0, 2]] := rfl
theorem bt10 (sh : List Int) : matAt (btS sh) 1 0 = [[1, 0, 0, 0, 1], [0, 1, 0, 0, 0], [0, 0, 1, 0, 1], [0, 0, 0, 1, 0], [0, 0, 0, 0, 2]] := rfl
theorem bt11 (sh : List Int) : matAt (btS sh) 1 1 = [[1, 0, 0, 0, 0], [0, 1, 0, 0, 1], [0, 0, 1, 0, 1], [0, 0, 0, 1, 1], [0, 0, 0, 0, 2]] := rfl
theorem sg_all (sh : List Int) (a b c d e f : Int) : sumsL (sgS sh) (allPl 2) [a, b, c, d, e, f] = [2 * a, 3 * b, c, 2 * d, 4 * e, 2 * f] := by
  rw [all2]
  simp only [sumsL, sumsFrom, folL, List.foldl_cons, List.foldl_nil, sg00, sg01, sg10, sg11, List.map_cons, List.map_nil, dotL, addL, List.zipWith_cons_cons, List.zipWith_nil_left, List.sum_cons, List.sum_nil, List.length_cons, List.length_nil, List.replicate, Nat.zero_add]
  congr 1
  · omega
  congr 1
  · omega
  congr 1
  · omega
  congr 1
  · omega
  congr 1
  · omega
  congr 1
  omega
theorem sg_diag (sh : List Int) (a b c d e f : Int) : sumsL (sgS sh) (diagPl 2) [a, b, c, d, e, f] = [0, 2 * b, 2 * c, 2 * d, 4 * e, 0] := by
  rw [diag2]
  simp only [sumsL, sumsFrom, folL, List.foldl_cons, List.foldl_nil, sg00, sg01, sg10, sg11, List.map_cons, List.map_nil, dotL, addL, List.zipWith_cons_cons, List.zipWith_nil_left, List.sum_cons, List.sum_nil, List.length_cons, List.length_nil, List.replicate, Nat.zero_add]
  congr 1
  · omega
  congr 1
  · omega
  congr 1
  · omega
  congr 1
  · omega
  congr 1
  · omega
  congr 1
  omega
theorem bt_all (sh : List Int) (a b c d e : Int) : sumsL (btS sh) (allPl 2) [a, b, c, d, e] = [4 * a + 2 * e, 4 * b + e, 4 * c + 2 * e, 4 * d + 2 * e, 8 * e] := by
  rw [all2]
  simp only [sumsL, sumsFrom, folL, List.foldl_cons, List.foldl_nil, bt00, bt01, bt10, bt11, List.map_cons, List.map_nil, dotL, addL, List.zipWith_cons_cons, List.zipWith_nil_left, List.sum_cons, List.sum_nil, List.length_cons, List.length_nil, List.replicate, Nat.zero_add]
  congr 1
  · omega
  congr 1
  · omega
  congr 1
  · omega
  congr 1
  · omega
  congr 1
  omega
theorem bt_diag (sh : List Int) (a b c d e : Int) : sumsL (btS sh) (diagPl 2) [a, b, c, d, e] = [2 * a, 2 * b + e, 2 * c + e, 2 * d + e, 4 * e] := by
  rw [diag2]
  simp only [sumsL, sumsFrom, folL, List.foldl_cons, List.foldl_nil, bt00, bt01, bt10, bt11, List.map_cons, List.map_nil, dotL, addL, List.zipWith_cons_cons, List.zipWith_nil_left, List.sum_cons, List.sum_nil, List.length_cons, List.length_nil, List.replicate, Nat.zero_add]
  congr 1
  · omega
  congr 1
  · omega
  congr 1
  · omega
  congr 1
  · omega
  congr 1
  omega
theorem sg_it (sh : List Int) : ∀ n : Nat, iterS (sgS sh) (allPl 2) n = [(2 : Int) ^ n, 3 ^ n, 1, 2 ^ n, 4 ^ n, 2 ^ n]
  | 0 => rfl
  | n + 1 => by
    show sumsL (sgS sh) (allPl 2) (iterS (sgS sh) (allPl 2) n) = _
    rw [sg_it sh n, sg_all]
    simp only [Int.pow_succ, Int.mul_comm]
theorem sg_dit (sh : List Int) : ∀ n : Nat, iterS (sgS sh) (diagPl 2) n = [if n = 0 then 1 else 0, 2 ^ n, 2 ^ n, 2 ^ n, 4 ^ n, if n = 0 then 1 else 0]
  | 0 => rfl
  | n + 1 => by
    show sumsL (sgS sh) (diagPl 2) (iterS (sgS sh) (diagPl 2) n) = _
    rw [sg_dit sh n, sg_diag]
    simp [Int.pow_succ, Int.mul_comm]
def xB : Nat → Int
  | 0 => 0
  | n + 1 => 4 * xB n + 2 * 8 ^ n
def nB : Nat → Int
  | 0 => 0
  | n + 1 => 4 * nB n + 8 ^ n
def lB : Nat → Int
  | 0 => 0
  | n + 1 => 2 * lB n + 4 ^ n
theorem bt_it (sh : List Int) : ∀ n : Nat, iterS (btS sh) (allPl 2) n = [xB n, nB n, xB n, xB n, 8 ^ n]
  | 0 => rfl
  | n + 1 => by
    show sumsL (btS sh) (allPl 2) (iterS (btS sh) (allPl 2) n) = _
    rw [bt_it sh n, bt_all]
    simp only [xB, nB, Int.pow_succ, Int.mul_comm]
theorem bt_dit (sh : List Int) : ∀ n : Nat, iterS (btS sh) (diagPl 2) n = [0, lB n, lB n, lB n, 4 ^ n]
  | 0 => rfl
  | n + 1 => by
    show sumsL (btS sh) (diagPl 2) (iterS (btS sh) (diagPl 2) n) = _
    rw [bt_dit sh n, bt_diag]
    simp only [lB, Int.pow_succ, Int.mul_comm, Int.zero_mul]
theorem xB_eq : ∀ n : Nat, 2 * xB n = 8 ^ n - 4 ^ n
  | 0 => rfl
  | n + 1 => by
    have := xB_eq n
    simp only [xB, Int.pow_succ]
    omega
theorem nB_eq : ∀ n : Nat, 4 * nB n = 8 ^ n - 4 ^ n
  | 0 => rfl
  | n + 1 => by
    have := nB_eq n
    simp only [nB, Int.pow_succ]
    omega
theorem lB_eq : ∀ n : Nat, 2 * lB n = 4 ^ n - 2 ^ n
  | 0 => rfl
  | n + 1 => by
    have := lB_eq n
    simp only [lB, Int.pow_succ]
    omega
end BB

namespace BB
open PySem PySem.Spec PyProof.Rows L2
def IsH (l : List Int) (r2 p : Int) : Prop := ∃ x n r c, l = [x, n, r, c, p] ∧ 2 * r = r2
theorem IsH_mk {x n r c p' r2 p : Int} (h : 2 * r = r2) (e : p' = p) : IsH [x, n, r, c, p'] r2 p := ⟨x, n, r, c, by rw [e], h⟩
theorem IsH.add {l l' : List Int} {r p r' p' : Int} (h : IsH l r p) (h' : IsH l' r' p') : IsH (addL l l') (r + r') (p + p') := by
  obtain ⟨x, n, q, c, rfl, e⟩ := h
  obtain ⟨x', n', q', c', rfl, e'⟩ := h'
  exact ⟨x + x', n + n', q + q', c + c', rfl, by omega⟩
theorem IsH.fol {v : List Int} {r p : Int} (sh : List Int) (h : IsH v r p) {a b : Int} (ha : a = 0 ∨ a = 1) (hb : b = 0 ∨ b = 1) : IsH (folL (btS sh) v (a, b)) (r + 2 * (a * p)) (2 * p) := by
  obtain ⟨x, n, q, c, rfl, e⟩ := h
  rcases ha with rfl | rfl <;> rcases hb with rfl | rfl <;>
    simp only [folL, bt00, bt01, bt10, bt11, List.map_cons, List.map_nil, dotL, List.zipWith_cons_cons, List.zipWith_nil_left, List.sum_cons, List.sum_nil] <;>
    exact IsH_mk (by omega) (by omega)
def In2 (ps : List (Int × Int)) : Prop := ∀ p, p ∈ ps → (p.1 = 0 ∨ p.1 = 1) ∧ (p.2 = 0 ∨ p.2 = 1)
def sumU (ps : List (Int × Int)) : Int := (ps.map fun p => p.1).sum
theorem IsH.from {v : List Int} {r p : Int} (sh : List Int) (h : IsH v r p) : ∀ {ps : List (Int × Int)} {acc : List Int} {ar ap : Int}, In2 ps → IsH acc ar ap → IsH (sumsFrom (btS sh) v ps acc) (ar + (ps.length * r + 2 * (sumU ps * p))) (ap + ps.length * (2 * p))
  | [], acc, ar, ap, _, ha => by
    have e1 : ar + (([] : List (Int × Int)).length * r + 2 * (sumU [] * p)) = ar := by simp [sumU]
    have e2 : ap + (([] : List (Int × Int)).length : Int) * (2 * p) = ap := by simp
    rw [e1, e2]
    exact ha
  | (a, b) :: ps, acc, ar, ap, hi, ha => by
    obtain ⟨i1, i2⟩ := hi (a, b) List.mem_cons_self
    have hf := h.fol sh i1 i2
    have := IsH.from sh h (ps := ps) (fun q hq => hi q (List.mem_cons_of_mem _ hq)) (ha.add hf)
    have e1 : ar + (((a, b) :: ps).length * r + 2 * (sumU ((a, b) :: ps) * p)) = ar + (r + 2 * (a * p)) + (ps.length * r + 2 * (sumU ps * p)) := by
      simp only [sumU, List.map_cons, List.sum_cons, List.length_cons]
      push_cast
      grind
    have e2 : ap + (((a, b) :: ps).length : Int) * (2 * p) = ap + 2 * p + ps.length * (2 * p) := by
      simp only [List.length_cons]
      push_cast
      grind
    rw [e1, e2]
    exact this
theorem IsH.sums {v : List Int} {r p : Int} (sh : List Int) (h : IsH v r p) {ps : List (Int × Int)} (hi : In2 ps) : IsH (sumsL (btS sh) ps v) (ps.length * r + 2 * (sumU ps * p)) (ps.length * (2 * p)) := by
  have hl : v.length = 5 := by obtain ⟨x, n, q, c, rfl, e⟩ := h; rfl
  have := h.from sh hi (acc := List.replicate v.length 0) (ar := 0) (ap := 0) (by rw [hl]; exact ⟨0, 0, 0, 0, rfl, rfl⟩)
  rw [Int.zero_add, Int.zero_add] at this
  exact this
structure CorR (c : Cor) (N A B : Int) : Prop where
  w : IsH c.whole (N * N * (N - 1)) (N * N * N)
  u : IsH c.upper (N * A * (A - 1)) (A * N * N)
  l : IsH c.left (B * N * (N - 1)) (N * B * N)
  b : IsH c.both (B * A * (A - 1)) (A * B * N)
theorem IsH.to {l : List Int} {r p r' p' : Int} (h : IsH l r p) (e1 : r = r') (e2 : p = p') : IsH l r' p' := by subst e1; subst e2; exact h
theorem in2 {ps : List (Int × Int)} (h : (ps.all fun p => (p.1 == 0 || p.1 == 1) && (p.2 == 0 || p.2 == 1)) = true) : In2 ps := fun p hp => by
  have := List.all_eq_true.mp h p hp
  simpa using this
theorem CorR.step (sh : List Int) {c : Cor} {N A B : Int} (h : CorR c N A B) : CorR (corStep (btS sh) 2 c) (2 * N) (((c.down % 2 : Nat) : Int) * N + A) (((c.along % 2 : Nat) : Int) * N + B) := by
  have hd : c.down % 2 = 0 ∨ c.down % 2 = 1 := by omega
  have ha : c.along % 2 = 0 ∨ c.along % 2 = 1 := by omega
  unfold corStep cLater
  rcases hd with hd | hd <;> rcases ha with ha | ha <;> rw [hd, ha] <;> (
    refine ⟨(h.w.sums sh (in2 rfl)).to ?_ ?_, ((h.w.sums sh (in2 rfl)).add (h.u.sums sh (in2 rfl))).to ?_ ?_, ((h.w.sums sh (in2 rfl)).add (h.l.sums sh (in2 rfl))).to ?_ ?_,
      ((((h.w.sums sh (in2 rfl)).add (h.u.sums sh (in2 rfl))).add (h.l.sums sh (in2 rfl))).add (h.b.fol sh (by simp) (by simp))).to ?_ ?_⟩ <;>
    simp [sumU, plR, pl1, pl2, allPl, List.range_succ] <;> grind)

theorem corR (sh : List Int) (R C : Nat) : ∀ t : Nat, CorR (corN (btS sh) 2 R C t) (2 ^ t) ((R % 2 ^ t : Nat) : Int) ((C % 2 ^ t : Nat) : Int) ∧ (corN (btS sh) 2 R C t).down = R / 2 ^ t ∧ (corN (btS sh) 2 R C t).along = C / 2 ^ t
  | 0 => by
    refine ⟨⟨?_, ?_, ?_, ?_⟩, by simp [corN, cor0], by simp [corN, cor0]⟩ <;> simp only [corN, cor0] <;> simp [Nat.mod_one] <;> exact IsH_mk (by first | rfl | simp) (by first | rfl | simp)
  | t + 1 => by
    obtain ⟨h, hd, ha⟩ := corR sh R C t
    have hs := h.step sh
    rw [hd, ha] at hs
    have m : ∀ X : Nat, ((X / 2 ^ t % 2 : Nat) : Int) * 2 ^ t + ((X % 2 ^ t : Nat) : Int) = ((X % 2 ^ (t + 1) : Nat) : Int) := fun X => by
      have e : X % 2 ^ (t + 1) = X % 2 ^ t + 2 ^ t * (X / 2 ^ t % 2) := by rw [Nat.pow_succ, Nat.mod_mul]
      rw [e]
      push_cast
      grind
    rw [m, m] at hs
    refine ⟨?_, ?_, ?_⟩
    · have e2 : (2 : Int) ^ (t + 1) = 2 * 2 ^ t := by rw [Int.pow_succ, Int.mul_comm]
      rw [e2]
      exact hs
    · show (corN (btS sh) 2 R C t).down / 2 = _
      rw [hd, Nat.div_div_eq_div_mul, Nat.pow_succ]
    · show (corN (btS sh) 2 R C t).along / 2 = _
      rw [ha, Nat.div_div_eq_div_mul, Nat.pow_succ]
theorem corEnd_r (sh : List Int) {R C n : Nat} (hR : R ≤ 2 ^ n) (hC : C ≤ 2 ^ n) : ∃ p, IsH (corEnd (corN (btS sh) 2 R C n)) ((C : Int) * R * (R - 1)) p := by
  obtain ⟨h, hd, ha⟩ := corR sh R C n
  have hp : 0 < 2 ^ n := Nat.pow_pos (by decide)
  have cp : ((2 ^ n : Nat) : Int) = 2 ^ n := by rw [Int.natCast_pow]; rfl
  have key : ∀ X : Nat, X ≤ 2 ^ n → (0 < X / 2 ^ n ∧ X = 2 ^ n) ∨ (¬ 0 < X / 2 ^ n ∧ X % 2 ^ n = X) := fun X hX => by
    by_cases e : X = 2 ^ n
    · refine .inl ⟨?_, e⟩
      rw [e, Nat.div_self hp]
      decide
    · have hlt : X < 2 ^ n := by omega
      exact .inr ⟨by rw [Nat.div_eq_of_lt hlt]; omega, Nat.mod_eq_of_lt hlt⟩
  unfold corEnd
  rw [hd, ha]
  rcases key R hR with ⟨r1, r2⟩ | ⟨r1, r2⟩ <;> rcases key C hC with ⟨c1, c2⟩ | ⟨c1, c2⟩
  · rw [if_pos r1, if_pos c1]
    refine ⟨_, h.w.to ?_ rfl⟩
    rw [r2, c2, cp]
  · rw [if_pos r1, if_neg c1]
    refine ⟨_, h.l.to ?_ rfl⟩
    rw [c2, r2, cp]
  · rw [if_neg r1, if_pos c1]
    refine ⟨_, h.u.to ?_ rfl⟩
    rw [r2, c2, cp]
  · rw [if_neg r1, if_neg c1]
    refine ⟨_, h.b.to ?_ rfl⟩
    rw [r2, c2]
theorem corn_r {R C n : Nat} (hR : R ≤ 2 ^ n) (hC : C ≤ 2 ^ n) : 2 * cornL (btS [0, 0, 1, 0, 0]) 2 n R C = (C : Int) * R * (R - 1) := by
  obtain ⟨p, x, nn, r, c, e, e2⟩ := corEnd_r [0, 0, 1, 0, 0] hR hC
  unfold cornL
  rw [e]
  show 2 * dotL [0, 0, 1, 0, 0] [x, nn, r, c, p] = _
  simp only [dotL, List.zipWith_cons_cons, List.zipWith_nil_left, List.sum_cons, List.sum_nil]
  omega
theorem area_r {r0 c0 r1 c1 n : Nat} (h1 : r0 ≤ r1) (h2 : c0 ≤ c1) (h3 : r1 < 2 ^ n) (h4 : c1 < 2 ^ n) : 2 * areaL (btS [0, 0, 1, 0, 0]) 2 n r0 c0 r1 c1 = ((r0 : Int) + r1) * (r1 - r0 + 1) * (c1 - c0 + 1) := by
  have q1 := corn_r (R := r1 + 1) (C := c1 + 1) (n := n) (by omega) (by omega)
  have q2 := corn_r (R := r0) (C := c1 + 1) (n := n) (by omega) (by omega)
  have q3 := corn_r (R := r1 + 1) (C := c0) (n := n) (by omega) (by omega)
  have q4 := corn_r (R := r0) (C := c0) (n := n) (by omega) (by omega)
  unfold areaL
  push_cast at q1 q2 q3 q4
  grind
end BB

namespace BB
open PySem PySem.Spec PyProof.Rows L2
def okB (b : Nat) (ls : List Line) : Bool := decide (ls.length ≤ 26) && decide (b ≤ 3) && decide (2 ≤ b) && ((nmsOf ls).all fun x => PyData.canLay0 (.str x) && isNm x && decide (x.length ≤ 100)) && decide ((nmsOf ls).Nodup) &&
  ls.all fun x => decide (x.2.2.length = b) && x.2.2.all fun r => decide (r.length = b) && r.all fun f => decide (f.length ≤ 1000) && f.all fun c => decide (c.2 ∈ nmsOf ls)
theorem bookIn_of {b : Nat} {ls : List Line} (h : okB b ls = true) : BookIn b ls := by
  unfold okB at h
  simp only [Bool.and_eq_true, decide_eq_true_eq, List.all_eq_true] at h
  obtain ⟨⟨⟨⟨⟨h1, h2⟩, h3⟩, h4⟩, h5⟩, h6⟩ := h
  exact ⟨⟨h1, h2, fun x hx => (h4 x hx).1.1, fun x hx => ⟨(h6 x hx).1, fun r hr => ((h6 x hx).2 r hr).1⟩, fun x hx r hr f hf c hc => (((h6 x hx).2 r hr).2 f hf).2 c hc⟩, h3, h5, fun x hx => (h4 x hx).1.2,
    fun x hx => by have := (h4 x hx).2; rw [sizeLine_eq]; omega, fun x hx r hr f hf => (((h6 x hx).2 r hr).2 f hf).1⟩
theorem sg_in : BookIn 2 signsLs := bookIn_of (by decide +kernel)
theorem bt_in : BookIn 2 bitsLs := bookIn_of (by decide +kernel)
theorem unit_bd (n k : Nat) : Bd 1 (unitL n k) := fun x hx => by
  unfold unitL at hx
  obtain ⟨j, _, rfl⟩ := List.mem_map.mp hx
  split <;> decide
def bdB (k : Nat) (xs : List Int) : Bool := xs.all fun x => decide (x.natAbs < 2 ^ k)
theorem bd_of {k : Nat} {xs : List Int} (h : bdB k xs = true) : Bd k xs := fun x hx => by
  have := List.all_eq_true.mp h x hx
  simpa using this
theorem tab_of {ls : List Line} {sh : List Int} {a : Nat} (hb : BookOk 2 ls) (hl : sh.length = ls.length) (h : (ls.all fun x => [(0 : Int), 1].all fun u => [(0 : Int), 1].all fun l => bdB a (rowL (nmsOf ls) (formAt x.2.2 u l))) = true) (hs : bdB a (ls.map fun x => x.2.1) = true) (hf : Bd a sh) : TabOk 2 ls sh a := by
  refine ⟨hb, hl, fun x hx u l hp => ?_, bd_of hs, hf⟩
  obtain ⟨p1, p2, p3, p4⟩ := hp
  have h1 := List.all_eq_true.mp h x hx
  have hu : u ∈ [(0 : Int), 1] := by simp; omega
  have hl : l ∈ [(0 : Int), 1] := by simp; omega
  exact bd_of (List.all_eq_true.mp (List.all_eq_true.mp h1 u hu) l hl)
theorem unit_len (n k : Nat) : (unitL n k).length = n := by unfold unitL; rw [List.length_map, List.length_range]
theorem sg_tab (k : Nat) : TabOk 2 signsLs (unitL signsLs.length k) 2 := tab_of sg_in.ok (unit_len _ _) (by decide +kernel) (by decide +kernel) ((unit_bd _ _).mono (by decide))
theorem bt_tab (k : Nat) : TabOk 2 bitsLs (unitL bitsLs.length k) 2 := tab_of bt_in.ok (unit_len _ _) (by decide +kernel) (by decide +kernel) ((unit_bd _ _).mono (by decide))
/-- what the totals tell -/
theorem sg_tot (n : Nat) : (["h", "s", "i", "d", "e"] : List Str).map (fun x => totL (sgS (unitL signsLs.length (idxL (nmsOf signsLs) x))) (allPl 2) n) = [(2 : Int) ^ n, 3 ^ n, 2 ^ n, 4 ^ n, 2 ^ n] := by
  have e : (["h", "s", "i", "d", "e"] : List Str).map (fun x => unitL signsLs.length (idxL (nmsOf signsLs) x)) = [[1, 0, 0, 0, 0, 0], [0, 1, 0, 0, 0, 0], [0, 0, 0, 1, 0, 0], [0, 0, 0, 0, 1, 0], [0, 0, 0, 0, 0, 1]] := by decide +kernel
  simp only [List.map_cons, List.map_nil, List.cons.injEq] at e ⊢
  obtain ⟨e1, e2, e3, e4, e5, _⟩ := e
  unfold totL
  simp only [sg_it]
  rw [e1, e2, e3, e4, e5]
  refine ⟨?_, ?_, ?_, ?_, ?_, trivial⟩ <;> simp [sysOf, dotL]
theorem sg_tr (n : Nat) : (["h", "s", "i", "d"] : List Str).map (fun x => totL (sgS (unitL signsLs.length (idxL (nmsOf signsLs) x))) (diagPl 2) n) = [if n = 0 then 1 else 0, (2 : Int) ^ n, 2 ^ n, 4 ^ n] := by
  have e : (["h", "s", "i", "d"] : List Str).map (fun x => unitL signsLs.length (idxL (nmsOf signsLs) x)) = [[1, 0, 0, 0, 0, 0], [0, 1, 0, 0, 0, 0], [0, 0, 0, 1, 0, 0], [0, 0, 0, 0, 1, 0]] := by decide +kernel
  simp only [List.map_cons, List.map_nil, List.cons.injEq] at e ⊢
  obtain ⟨e1, e2, e3, e4, _⟩ := e
  unfold totL
  simp only [sg_dit]
  rw [e1, e2, e3, e4]
  refine ⟨?_, ?_, ?_, ?_, trivial⟩ <;> simp [sysOf, dotL]
theorem bt_unit : (["x", "n", "r", "c", "p"] : List Str).map (fun x => unitL bitsLs.length (idxL (nmsOf bitsLs) x)) = [[1, 0, 0, 0, 0], [0, 1, 0, 0, 0], [0, 0, 1, 0, 0], [0, 0, 0, 1, 0], [0, 0, 0, 0, 1]] := by decide +kernel
theorem bt_tot (n : Nat) : (["x", "n", "r", "c", "p"] : List Str).map (fun x => totL (btS (unitL bitsLs.length (idxL (nmsOf bitsLs) x))) (allPl 2) n) = [xB n, nB n, xB n, xB n, 8 ^ n] := by
  have e := bt_unit
  simp only [List.map_cons, List.map_nil, List.cons.injEq] at e ⊢
  obtain ⟨e1, e2, e3, e4, e5, _⟩ := e
  unfold totL
  simp only [bt_it]
  rw [e1, e2, e3, e4, e5]
  refine ⟨?_, ?_, ?_, ?_, ?_, trivial⟩ <;> simp [sysOf, dotL]
theorem bt_tr (n : Nat) : (["x", "n", "r", "c", "p"] : List Str).map (fun x => totL (btS (unitL bitsLs.length (idxL (nmsOf bitsLs) x))) (diagPl 2) n) = [0, lB n, lB n, lB n, 4 ^ n] := by
  have e := bt_unit
  simp only [List.map_cons, List.map_nil, List.cons.injEq] at e ⊢
  obtain ⟨e1, e2, e3, e4, e5, _⟩ := e
  unfold totL
  simp only [bt_dit]
  rw [e1, e2, e3, e4, e5]
  refine ⟨?_, ?_, ?_, ?_, ?_, trivial⟩ <;> simp [sysOf, dotL]
end BB
namespace BB
open PySem PySem.Spec PyProof.Rows L2
theorem map_int {α : Type} (l : List α) (g : α → Int) : (l.map fun x => D.int (g x)) = (l.map g).map D.int := by rw [List.map_map]; rfl
theorem pow_bd {b n k : Nat} (h : b ≤ 2 ^ k) : ((b : Int) ^ n).natAbs < 2 ^ (k * n + 1) := by
  rw [Int.natAbs_pow, Int.natAbs_natCast, Nat.pow_succ, Nat.pow_mul]
  have h1 := Nat.pow_le_pow_left h n
  have : 0 < (2 ^ k) ^ n := Nat.pow_pos (Nat.pow_pos (by decide))
  omega
end BB
namespace BB
open PySem PySem.Spec PyProof.Rows L2
theorem fne (xs : List Int) {Q : RV → Prop} (h : Q (.v (.bl false))) : fEq true (intsD xs) (intsD xs) Q := by
  rw [fEq_li]
  simp only [decide_true, Bool.not_true, if_true]
  exact h
theorem pow44 (n : Nat) : (2 : Int) ^ n * 2 ^ n = 4 ^ n := by
  rw [← Int.mul_pow]
  rfl
end BB
namespace BB
open PySem PySem.Spec PyProof.Rows L2
theorem fdiv2 {x y : Int} (h : 2 * x = y) : y.fdiv 2 = x := by
  rw [Int.fdiv_eq_ediv_of_nonneg _ (by decide)]
  omega
theorem fdiv4 {x y : Int} (h : 4 * x = y) : y.fdiv 4 = x := by
  rw [Int.fdiv_eq_ediv_of_nonneg _ (by decide)]
  omega
theorem pow48 (n : Nat) : (4 : Int) ^ n * 2 ^ n = 8 ^ n := by
  rw [← Int.mul_pow]
  rfl
theorem both_eq (n : Nat) : (4 : Int) ^ n * (2 ^ n - 1) = 8 ^ n - 4 ^ n := by
  rw [Int.mul_sub, pow48, Int.mul_one]
theorem line_eq (n : Nat) : (2 : Int) ^ n * (2 ^ n - 1) = 4 ^ n - 2 ^ n := by
  rw [Int.mul_sub, pow44, Int.mul_one]
theorem pow_m1 (n : Nat) : ((2 : Int) ^ n - 1).natAbs < 2 ^ (1 * n + 1) := by
  have h1 := pow_bd (b := 2) (n := n) (k := 1) (by decide)
  have h2 : (0 : Int) < 2 ^ n := Int.pow_pos (by decide)
  have h3 : (((2 : Nat) : Int) ^ n) = (2 : Int) ^ n := rfl
  rw [h3] at h1
  omega
end BB
namespace BB
open PySem PySem.Spec PyProof.Rows L2
theorem min_nat (x y : Nat) : (if (y : Int) < (x : Int) then (y : Int) else (x : Int)) = ((min x y : Nat) : Int) := by
  split <;> omega
theorem max_nat (x y : Nat) : (if (x : Int) < (y : Int) then (y : Int) else (x : Int)) = ((max x y : Nat) : Int) := by
  split <;> omega
theorem if_nat (n : Nat) : (if decide (((n : Nat) : Int) = 0) = true then (1 : Int) else 0) = if n = 0 then 1 else 0 := by
  by_cases h : n = 0 <;> simp [h]
end BB
namespace BB
open PySem PySem.Spec PyProof.Rows L2
theorem even_rows {r0 r1 : Nat} (h : r0 ≤ r1) : ∃ k : Int, 2 * k = ((r0 : Int) + r1) * (r1 - r0 + 1) := by
  have hp : ((r0 : Int) + r1) % 2 = 0 ∨ ((r1 : Int) - r0 + 1) % 2 = 0 := by omega
  rcases hp with hp | hp
  · obtain ⟨m, hm⟩ : ∃ m : Int, (r0 : Int) + r1 = 2 * m := ⟨((r0 : Int) + r1) / 2, by omega⟩
    exact ⟨m * (r1 - r0 + 1), by rw [hm, Int.mul_assoc]⟩
  · obtain ⟨m, hm⟩ : ∃ m : Int, (r1 : Int) - r0 + 1 = 2 * m := ⟨((r1 : Int) - r0 + 1) / 2, by omega⟩
    exact ⟨((r0 : Int) + r1) * m, by rw [hm]; grind⟩
theorem bt_r : unitL bitsLs.length (idxL (nmsOf bitsLs) "r") = [0, 0, 1, 0, 0] := by decide +kernel
end BB

namespace BB
open PySem PySem.Spec PyProof.Rows L2
theorem datL_ints {K : PySem.W.Frag} {F : Hp} : ∀ ns : List Int, DatL K F (ns.map V.int) (ns.map D.int)
  | [] => .nil
  | n :: ns => .cons (.int n) (datL_ints ns)
/-- the script's slot alone -/
theorem sp_top {K : PySem.W.Frag} {H : Hp} {a : Addr} (ns : List Int) (hS : SqL K H a (ns.map V.int)) {fs : FS} (hf : fs [.fz (scrD ns)] (fun r _ => r = .v (.bl true)) (fun _ _ _ => False)) :
    spF K 1 fs [.ref a] H (fun v _ => v = .bl true) fun _ _ _ => False := by
  refine ⟨rfl, H, fun _ => none, [.fz (scrD ns)], _, _, ⟨SF.refl H, fun _ _ e => (by cases e), fun _ _ _ => .inl rfl, rfl, fun i s e => ?_, fun i j b hi hj => ?_, fun p hp => by cases hp⟩, hf, fun r ρ' hr F' H' v sm R' kv => ?_, fun c d ρ' x => x.elim⟩
  · match i, e with
    | 0, e =>
      cases e
      exact ⟨_, rfl, .scr hS (datL_ints ns)⟩
    | i + 1, e => simp at e
  · obtain ⟨s, e, hs⟩ := hi
    match i, e with
    | 0, e =>
      cases e
      exact hs.elim
    | i + 1, e => simp at e
  · subst hr
    cases kv
    rfl
theorem cx_none {P : Program} {w : World} {H : Hp} {s s' : Shared} {e : Value} (h : L2.CX P w [] H s (fun _ _ _ => False) e s') : False := by
  obtain ⟨_, _, _, _, _, _, _, _, _, _, _, _, z⟩ := h
  exact z
end BB

namespace BB
open PySem PySem.Spec PyProof.Rows L2
/-! ### defs that are called where no repr is under way -/
structure FnG (P : Program) (w : World) (K : PySem.W.Frag) (mg : Str → Option Value) (base : Heap) (k : Nat) (f : Addr) (fd : FuncData) (ps : List Str) (fs : FS) : Prop where
  run : ∀ (A : Around) (outer : List Env) (s : Shared) (H : Hp) (args : Args) (us : List Value) (vs : List V) (Q : VK) (E : XK), A.guards = some [] → Room k A →
    Env0 P w K mg base A outer s H → BindsTo s fd args (ps.zip us) → Vals vs us → spF K ps.length fs vs H Q E → codeAny (model P w) A (.call (.ref f) args) (CR (L2.CX P w) outer P w H s Q E) s
section
variable {P : Program} {w : World} {K : PySem.W.Frag} {mg : Str → Option Value} {base : Heap} {x qual : Str} {st : Stmt} {f : Addr} {fd : FuncData} {N ps : List Str} {k : Nat} {fs : FS} {ms : MS}
theorem fng_of (Fu : Fun K x qual st f fd) (S : FnScope N ps (defScope st)) (mask : List Bool) (hm : mask.length = ps.length)
    (hb : ∀ (cdv : Value) (A : Around) (outer : List Env) (s : Shared) (H : Hp) (E : XK) (a : Nat → Addr), Room k (A.deeper (envOfC qual (defScope st) s.heap.objs.size f cdv)) →
      (A.deeper (envOfC qual (defScope st) s.heap.objs.size f cdv)).guards = some [] →
      SB (cxOf (L2.CX P w) P w K mg base N qual (defScope st) f cdv A outer s H E) (fxM 0 mask a) (WF E) (defBody st) ms)
    (hd : ∀ ρ Q Xx, fs ρ Q Xx → maskOk mask ρ ∧ ms (ρ ++ List.replicate (N.length - ps.length) .no) (mEnd mask Q Xx)) : FnG P w K mg base (k + 1) f fd ps fs := by
  obtain ⟨oc, od, kV, doc, pm, an, cdv, ct, osl, hfd, look, code⟩ := Fu.ex
  subst hfd
  constructor
  intro A outer s H args us vs Q E hg room env bnd vals spec
  have hl : vs.length = ps.length := spec.1
  have KX : K.In s.heap := PySem.W.Frag.In.keeps env.mod.kin fun b o e => (env.bs b o e).1
  have lim : s.heap.NoLimit := Heap.NoLimit.keeps env.mod.nolimit fun b o e => (env.bs b o e).1
  refine codeAny_call_function room.depth (KX _ _ look) rfl S.co S.gen rfl (PySem.W.codeRec_of KX code) (bnd _ _ _ _ (wpAny_newFunctionEnv_cells S.kind (fun y hy => ?_) fun ev hev s1 ic => ?_))
  · rcases S.par y.1 (List.of_mem_zip (a := y.1) (b := y.2) hy).1 with z | z
    · exact Or.inl z
    · exact Or.inr ⟨z, PySem.W.cellsFrom_some _ _ _ (Or.inl z)⟩
  subst hev
  refine ⟨lim.keeps ic.toInCall.keep, codeAny_func ?_⟩
  obtain ⟨t, ht, run⟩ := fnd_body S mask hm (fun a => hb cdv A outer s H E a (room.deeper _) hg) hd spec
  have start := inv_start (CX := L2.CX P w) (E := E) S room.hd env hl vals ic
  refine wpAny_mono (ht.run [] s1 _ H _ start run) (fun out s' got => ?_) fun e s' got => got
  cases out with
  | brk => exact (got.choose_spec.choose_spec.2).elim
  | cont => exact (got.choose_spec.choose_spec.2).elim
  | next =>
    obtain ⟨σ', H', J, q⟩ := got
    exact ⟨V.non, H', J.os, J.bare, J.base, J.hok, rfl, q⟩
  | ret u =>
    obtain ⟨v, σ', H', J, rv, q⟩ := got
    exact ⟨v, H', J.os, J.bare, J.base, J.hok, rv, q⟩
theorem FnG.of (F : FnD P w K mg base k f fd ps fs) : FnG P w K mg base k f fd ps fs := ⟨fun A outer s H args us vs Q E _ => F.run A outer s H args us vs Q E⟩
end
section
variable {X : Cx} {fx : List (Nat × Addr)} {W : WX} {k : Nat} {f : Addr} {fd : FuncData} {ps : List Str} {fs : FS} {x : Str} {pos q : Pos} {e : Expr} {es : List Expr} {ma : MA} {m : M}
theorem run_fng {E : L2.St → XK} {σ : L2.St} {pins : List (Addr × Obj)} {H : Hp} {s : Shared} {Q : VK} {us : List Value} {vs : List V} (F : FnG X.prog X.w X.K X.mg X.base k f fd ps fs) (hg : X.A.guards = some []) (hr : Room k X.A) (hb : Binds X.K fd ps [])
    (hx : PassesAt (L2.CX X.prog X.w) X σ (E σ)) (I : Inv X pins σ H s) (r : Vals vs us) (h : spF X.K ps.length fs vs H Q (E σ)) : wpAny (model X.prog X.w) X.A (call (.ref f) us) (EP X pins σ Q) X.xe s := by
  have hz : (us ++ []).length = ps.length := by
    rw [List.append_nil, ← Vals.length r]
    exact h.1
  have hb' := hb s us I.kIn hz
  rw [List.append_nil] at hb'
  refine wpAny_call (codeAny_mono (F.run X.A X.stack s H ⟨us, []⟩ us vs Q (E σ) hg hr I.env0 hb' r h) fun out s' got => ?_)
  match out, got with
  | .error e, got => exact hx pins H s e s' I got
  | .ok (.ret u), got => exact I.after got
  | .ok .next, got => exact False.elim got
  | .ok .brk, got => exact False.elim got
  | .ok .cont, got => exact False.elim got
theorem es_callG (F : FnG X.prog X.w X.K X.mg X.base k f fd ps fs) (hg : X.A.guards = some []) (hr : Room k X.A) (hm : X.mg x = some (.ref f)) (hk : PySem.W.keepIn X.K (.ref f) = true) (hb : Binds X.K fd ps []) (tk : Takes X W) (ha : EA X fx W (e :: es) ma)
    (gl : Gl X x := by rfl) (hdb : (x == ("__debug__" : Str)) = false := by decide) (he : starEach (e :: es) X.env = (false, eval e X.env) :: starEach es X.env := by rfl) (hpl : (backTo pos (starEach es X.env)).any (·.1) = false := by rfl) :
    ES X fx W (.Call (.Name x q) (e :: es) [] pos) (mCall ps.length fs ma) := by
  refine pe_imp (t := tCallSD (spF X.K ps.length fs) [] (WE W) (tSA X.K fx W ma)) ⟨fun pins s σ H Q I h => ?_⟩ fun _ _ _ h => ts_call h
  refine wpAny_Call_Name_kw (ld_glob I gl hm ?_ hdb)
  refine PySem.W.callWith_K (h₀ := X.base) I.ok.mod.kin hk (thn (ha.run pos pins s σ H _ I h) fun us s1 got => ?_) he hpl
  obtain ⟨vs, H1, I1, r, z⟩ := got
  rw [List.append_nil] at z
  exact ⟨I1.kIn, run_fng F hg hr hb (passAt tk σ) I1 r z⟩
theorem es_callG0 (F : FnG X.prog X.w X.K X.mg X.base k f fd ps fs) (hg : X.A.guards = some []) (hr : Room k X.A) (hm : X.mg x = some (.ref f)) (hk : PySem.W.keepIn X.K (.ref f) = true) (hb : Binds X.K fd ps []) (tk : Takes X W)
    (gl : Gl X x := by rfl) (hdb : (x == ("__debug__" : Str)) = false := by decide) : ES X fx W (.Call (.Name x q) [] [] pos) (mCall ps.length fs aNil) := by
  refine pe_imp (t := tCallSD (spF X.K ps.length fs) [] (WE W) tNil) ⟨fun pins s σ H Q I h => ?_⟩ fun _ _ _ h => ?_
  · exact wpAny_Call_Name_kw (ld_glob I gl hm (PySem.W.callWith_K0 I.kIn hk (run_fng (us := []) (vs := []) F hg hr hb (passAt tk σ) I .nil h)) hdb)
  · obtain ⟨F, G, ρ, Q0, X0, R, h, q, x⟩ := h
    exact sp_call (as := []) (vs := []) R trivial h.1 h.2.1 h.2.2 q x
end
/-! ### the law's call, where no repr is under way -/
theorem law_callG {P : Program} {w : World} {K : PySem.W.Frag} {mg mb : Str → Option Value} {k : Nat} {fa a : Addr} {fd : FuncData} {fs : FS} {s : Shared} {vs : List Value} {ns : List Int}
    (KX : K.In s.heap) (hns : s.heap.Ns mainGlobals mg) (hb : s.heap.Ns builtinsNs mb) (hbb : ∀ x : Str, x ≠ "__name__" → mb x = bootBuiltins x) (hlim : s.heap.NoLimit) (hg : s.gens = #[])
    (ha : s.heap.get? a = some { cls := .type "list", data := .seq vs.toArray }) (hi : IntsAre vs ns) (hl : ns.length ≤ sizeLine) (hr : Room k callerA)
    (F : ∀ base : Heap, K.In base → base.Ns mainGlobals mg → FnG P w K mg base k fa fd ["script"] fs) (hbind : ∀ (s : Shared) (u : Value), BindsTo s fd ⟨[u], []⟩ [("script", u)])
    (hsp : ∀ H : Hp, SqL K H a (ns.map V.int) → spF K 1 fs [.ref a] H (fun v _ => v = .bl true) fun _ _ _ => False) :
    codeAny (model P w) callerA (.call (.ref fa) ⟨[.ref a], []⟩) (fun r s' => r = .ok (.ret (.bool true)) ∧ OldK s.heap s'.heap ∧ s'.os = s.os ∧ AllBare s'.gens) s := by
  have rv := vals_ints hi
  have main : ∀ H : Hp, Only H → SqL K H a (ns.map V.int) → HOk P w H s.heap → (∀ b, H b ≠ none → b = a) → (H a ≠ none → K.lookup a = none) →
      codeAny (model P w) callerA (.call (.ref fa) ⟨[.ref a], []⟩) (fun r s' => r = .ok (.ret (.bool true)) ∧ OldK s.heap s'.heap ∧ s'.os = s.os ∧ AllBare s'.gens) s := by
    intro H only sq ok only_a fresh
    have not_a : ∀ {b : Addr} {o : Obj} {es : Array DictEntry} {ep : Nat}, s.heap.get? b = some o → o.data = .dict es ep → H b = none := by
      intro b o es ep e d
      cases q : H b with
      | none => rfl
      | some u =>
        obtain rfl := only_a b (by rw [q]; exact Option.some_ne_none u)
        rw [ha] at e
        obtain rfl := Option.some.inj e
        cases (show Data.seq vs.toArray _ = Data.dict es ep from d)
    have hid : ∀ {b : Addr} {m : Str → Option Value}, s.heap.Ns b m → (hidT s.heap H).Ns b m := by
      rintro b m ⟨o, es, ep, e, d, r⟩
      exact ⟨o, es, ep, hidT_get e (not_a e d), d, r⟩
    have kIn : K.In (hidT s.heap H) := by
      intro b o e
      refine hidT_get (KX b o e) ?_
      cases q : H b with
      | none => rfl
      | some u =>
        obtain rfl := only_a b (by rw [q]; exact Option.some_ne_none u)
        rw [fresh (by rw [q]; exact Option.some_ne_none u)] at e
        cases e
    have mod : Mod K mg (hidT s.heap H) := by
      obtain ⟨mc, l1, l2⟩ := hlim
      exact ⟨kIn, hid hns, ⟨mb, hid hb, hbb⟩, mc, hid l1, l2⟩
    have env : Env0 P w K mg (hidT s.heap H) callerA [] s H := ⟨rfl, mod, fun b o e => of_hidT e, Nat.le_of_eq (hidT_size _ _), trivial, fun b hb => (by cases (show b ∈ ([] : List Addr) from hb)), ok, .of_eq hg⟩
    refine codeAny_mono ((F _ kIn (hid hns)).run callerA [] s H ⟨[.ref a], []⟩ [.ref a] [.ref a] _ _ rfl hr env (hbind s (.ref a)) (.cons rfl .nil) (hsp H sq)) fun out s' got => ?_
    match out, got with
    | .error e, got => exact (cx_none got).elim
    | .ok .next, got => exact False.elim got
    | .ok .brk, got => exact False.elim got
    | .ok .cont, got => exact False.elim got
    | .ok (.ret u), got =>
      obtain ⟨v, H', os, bare, un, ok', rel, rfl⟩ := got
      obtain rfl : u = Value.bool true := rel
      refine ⟨rfl, OldK.of_keep fun b o e => ?_, os, bare⟩
      cases q : H b with
      | none => exact un.keep b o e q (fun z => by cases (show b ∈ ([] : List Addr) from z)) (by simp)
      | some u =>
        rcases only b with z | ⟨ob, xs, z⟩
        · rw [q] at z
          cases z
        · obtain ⟨e1, _⟩ := ok b _ z
          obtain ⟨e2, _⟩ := ok' b _ (un.frzs b ob _ z)
          rw [e] at e1
          cases e1
          exact e2
  cases hk : K.lookup a with
  | some o =>
    have e := KX a o hk
    rw [ha] at e
    obtain rfl := Option.some.inj e
    exact main (fun _ => none) (fun _ => Or.inl rfl) (Or.inr ⟨_, vs.toArray, _, hk, rfl, rfl, rfl, by rw [List.size_toArray, hi.length]; exact hl, by simpa using rv⟩) (fun b u z => (by cases (show (none : Option HO) = some u from z))) (fun b z => (z rfl).elim) fun z => (z rfl).elim
  | none =>
    have same : (fun b : Addr => if b = a then some (HO.frz { cls := .type "list", data := .seq vs.toArray } (.lst (ns.map V.int))) else none) a = some (HO.frz { cls := .type "list", data := .seq vs.toArray } (.lst (ns.map V.int))) := if_pos rfl
    have other : ∀ b, b ≠ a → (fun b : Addr => if b = a then some (HO.frz { cls := .type "list", data := .seq vs.toArray } (.lst (ns.map V.int))) else none) b = none := fun b q => if_neg q
    refine main _ (fun b => ?_) (Or.inl (Or.inr ⟨_, same⟩)) (fun b u z => ?_) (fun b z => Classical.byContradiction fun q => z (other b q)) fun _ => hk
    · by_cases q : b = a
      · subst q
        exact Or.inr ⟨_, _, same⟩
      · exact Or.inl (other b q)
    · by_cases q : b = a
      · subst q
        obtain rfl := Option.some.inj (same.symm.trans z)
        exact ⟨ha, by rw [List.length_map]; exact hl, vs, _, rv, ha⟩
      · cases (other b q).symm.trans z
theorem walk_ofG {l : PySem.W.OpenLaw} {n k : Nat} {q : Program} {loose : List Str} {XP : (Str → Option Value) → Heap → Prop} {YP : World → Heap → Prop} {d : DefRec} {K : Params → PySem.W.Frag} {fs : World → FS}
    (hn : l.most = some n) (hn2 : n ≤ sizeLine) (hdf : d.params.defaults = []) (hr : Room k callerA) (hY : ∀ (w : World) (h : Heap), YP w h → (K w.params).In h)
    (F : ∀ (w : World) (mg : Str → Option Value) (fa : Addr) (h : Heap), (K w.params).In h → h.Ns mainGlobals mg → mg d.name = some (.ref fa) →
      ∃ fd : FuncData, (∀ (s : Shared) (u : Value), BindsTo s fd ⟨[u], []⟩ [("script", u)]) ∧ ∀ base : Heap, (K w.params).In base → base.Ns mainGlobals mg → FnG l.prog w (K w.params) mg base k fa fd ["script"] (fs w))
    (hsp : ∀ (w : World) (H : Hp) (a : Addr) (ns : List Int), ns.length ≤ n → SqL (K w.params) H a (ns.map V.int) → spF (K w.params) 1 (fs w) [.ref a] H (fun v _ => v = .bl true) fun _ _ _ => False) :
    PySem.W.WalkO q loose XP YP l.row.toRowW d [] (fun f vs => PySem.call f vs) := by
  refine Att.attach_call hn hdf fun w s₀ s mg mb fa o pm cd doc a vs ns G Y _ _ _ hmg hobj hints hlen hg => ?_
  obtain ⟨fd, bind, run⟩ := F w mg fa _ (hY w _ Y) G.T.g hmg
  exact law_callG (hY w _ Y) G.T.g G.T.b G.T.builtins G.T.nolimit hg hobj hints (Nat.le_trans hlen hn2) hr run bind fun H sq => hsp w H a ns hlen sq
end BB

namespace BB
open PySem PySem.Spec PyProof.Rows L2
/-! ### repr -/
/-- data whose text is known: nested at most so deep, so many signs -/
inductive Shw : Nat → Nat → D → Prop
  | non : Shw 0 8 .non
  | bl (b : Bool) : Shw 0 8 (.bl b)
  | int {i : Int} {b : Nat} : i.natAbs < 2 ^ b → b ≤ 1900 → Shw 0 (b + 8) (.int i)
  | str {x : Str} : (∀ c, c ∈ x.cps.toList → c < 1000) → Shw 0 (10 * x.length + 8) (.str x)
  | lst {k n : Nat} {xs : List D} : (∀ x, x ∈ xs → Shw k n x) → Shw (k + 1) (xs.length * (n + 2) + 8) (.lst xs)
  | tup {k n : Nat} {xs : List D} : (∀ x, x ∈ xs → Shw k n x) → Shw (k + 1) (xs.length * (n + 2) + 8) (.tup xs)
  | mono {k n k' n' : Nat} {d : D} : Shw k n d → k ≤ k' → n ≤ n' → Shw k' n' d
def shownD (d : D) : Str := match d.py with
  | some p => p.shown
  | none => Str.empty
/-- what of it the library wants -/
def ShP (k n : Nat) (p : PyData) : Prop := p.showable = true ∧ p.hasDict = false ∧ p.depth ≤ k ∧ p.shown.length ≤ n
def ShL (k n : Nat) (ps : List PyData) : Prop := PyData.showableAll ps = true ∧ PyData.hasDictAll ps = false ∧ PyData.depthAll ps ≤ k ∧ ((PyData.shownAll ps).map (·.length)).sum + 2 * ps.length ≤ ps.length * (n + 2)
theorem shl_of : ∀ {k n : Nat} (xs : List D), (∀ x, x ∈ xs → ∃ p, x.py = some p ∧ ShP k n p) → ∃ ps, D.pys xs = some ps ∧ ps.length = xs.length ∧ ShL k n ps
  | k, n, [], _ => ⟨[], rfl, rfl, rfl, rfl, Nat.zero_le _, by simp [PyData.shownAll]⟩
  | k, n, x :: xs, h => by
    obtain ⟨p, e, h1, h2, h3, h4⟩ := h x List.mem_cons_self
    obtain ⟨ps, es, el, g1, g2, g3, g4⟩ := shl_of xs fun y hy => h y (List.mem_cons_of_mem _ hy)
    refine ⟨p :: ps, by unfold D.pys; rw [e, es], by rw [List.length_cons, List.length_cons, el], ?_, ?_, ?_, ?_⟩
    · unfold PyData.showableAll
      rw [h1, g1]; rfl
    · unfold PyData.hasDictAll
      rw [h2, g2]; rfl
    · unfold PyData.depthAll
      exact Nat.max_le.mpr ⟨h3, g3⟩
    · unfold PyData.shownAll
      rw [List.map_cons, List.sum_cons, List.length_cons, Nat.add_mul, Nat.one_mul]
      omega
theorem Shw.pyd {k n : Nat} {d : D} (h : Shw k n d) : ∃ p, d.py = some p ∧ ShP k n p := by
  induction h with
  | non => exact ⟨_, rfl, rfl, rfl, Nat.le_refl _, by decide +kernel⟩
  | bl b => exact ⟨_, rfl, rfl, rfl, Nat.le_refl _, by cases b <;> decide +kernel⟩
  | @int i b hi hb =>
    have hl : i.natAbs.log2 < b + 1 := by
      by_cases z : i.natAbs = 0
      · rw [z]; exact Nat.succ_pos _
      · exact (Nat.log2_lt z).mpr (Nat.lt_of_lt_of_le hi (Nat.pow_le_pow_right (by decide) (Nat.le_succ _)))
    refine ⟨_, rfl, ?_, rfl, Nat.le_refl _, ?_⟩
    · show decide (i.natAbs.log2 < 1920) = true
      exact decide_eq_true (by omega)
    · have := int_text_length_le (a := i) (Nat.succ_pos b) hl
      show (Str.ofString (toString i)).length ≤ _
      rw [show (Str.ofString (toString i)).length = (toString i).length from PySem.ofString_length _]
      omega
  | @str x hx =>
    refine ⟨_, rfl, rfl, rfl, Nat.le_refl _, ?_⟩
    have := StrLaws.reprText_len x fun c hc => Nat.lt_of_lt_of_le (hx c hc) (by decide)
    show (PyData.shown (.str x)).length ≤ _
    simp only [PyData.shown]
    have e : x.length = x.cps.size := rfl
    omega
  | @lst k n xs _ ih =>
    obtain ⟨ps, e, el, g1, g2, g3, g4⟩ := shl_of xs ih
    refine ⟨.list ps, by unfold D.py; rw [e], g1, g2, Nat.succ_le_succ g3, ?_⟩
    have h2 := listText_len_le (PyData.shownAll ps)
    have h3 := PyData.shownAll_length ps
    simp only [PyData.shown]
    rw [el] at g4 h3
    omega
  | @tup k n xs _ ih =>
    obtain ⟨ps, e, el, g1, g2, g3, g4⟩ := shl_of xs ih
    refine ⟨.tuple ps, by unfold D.py; rw [e], g1, g2, Nat.succ_le_succ g3, ?_⟩
    have h2 := tupleText_len_le (PyData.shownAll ps)
    have h3 := PyData.shownAll_length ps
    simp only [PyData.shown]
    rw [el] at g4 h3
    omega
  | mono _ h1 h2 ih =>
    obtain ⟨p, e, g1, g2, g3, g4⟩ := ih
    exact ⟨p, e, g1, g2, Nat.le_trans g3 h1, Nat.le_trans g4 h2⟩
section
variable {X : Cx} {K : PySem.W.Frag} {F G H : Hp} {fx : List (Nat × Addr)} {W : WX} {ρ : DE} {σ : L2.St} {pos : Pos} {e : Expr} {ma : M}
def rRepr (K : PySem.W.Frag) : List V → Hp → VK → Prop := fun xs H Q => ∃ v p, xs = [v] ∧ Dp K H v p ∧ p.showable = true ∧ p.hasDict = false ∧ p.depth ≤ 60 ∧ p.shown.length ≤ sizeLine ∧ Q (.str p.shown) H
theorem call_reprD (hg : X.A.guards = some []) (hu : X.A.units + 64 < cLine) : CallR X (.builtin "repr") (rRepr X.K) := by
  intro pins s σ H xs us Q I r h
  obtain ⟨v, p, rfl, dp, h1, h2, h3, h4, q⟩ := h
  obtain ⟨u, rfl, ru⟩ := vals1 r
  have big : ∀ a : Addr, u = .ref a → wpAny (model X.prog X.w) X.A (call (.builtin "repr") [u]) (EP X pins σ Q) X.xe s := by
    intro a e
    obtain ⟨as, rd⟩ := Dp.reads I p v u dp ru
    subst e
    refine repr_of_reads' rd h1 (fun z => by rw [h2] at z; cases z) hg (by omega) (fun _ _ e => e) (fun h' t tk kp => ?_) h4
    exact ⟨.str _, H, I.kept kp, ⟨_, rfl⟩, q⟩
  cases dp with
  | non =>
    cases (show u = Value.none from ru)
    exact PySem.P.repr_of_none ⟨.str _, H, I.tok _, ⟨_, rfl⟩, q⟩
  | bl b =>
    cases (show u = Value.bool b from ru)
    refine PySem.P.repr_of_bool ⟨.str _, H, I.tok _, ⟨_, rfl⟩, ?_⟩
    cases b <;> exact q
  | int i =>
    obtain ⟨t, rfl⟩ := ru
    exact PySem.P.repr_of_int (of_decide_eq_true h1) ⟨.str _, H, I.tok _, ⟨_, rfl⟩, q⟩
  | str x =>
    obtain ⟨t, rfl⟩ := ru
    simp only [PyData.shown] at q h4
    exact PySem.P.repr_of_str ⟨.str _, H, I.tok _, ⟨_, rfl⟩, q⟩ h4
  | lst _ _ => exact big _ ru
  | tup _ _ => exact big _ ru
def fRepr : F1 := fun d Q => (∃ k n, k ≤ 60 ∧ n ≤ sizeLine ∧ Shw k n d) ∧ Q (.v (.str (shownD d)))
theorem snd_repr : Snd1 K (fun x H Q => rRepr K [x] H Q) fRepr where
  ok := by
    intro F G H fx ρ σ x d Q0 Q R h1 hf q
    obtain ⟨⟨k, n, hk, hn, sh⟩, hf⟩ := hf
    obtain ⟨p, e, g1, g2, g3, g4⟩ := sh.pyd
    refine ⟨x, p, rfl, h1.dp R e, g1, g2, Nat.le_trans g3 hk, Nat.le_trans g4 hn, ?_⟩
    have e2 : shownD d = p.shown := by unfold shownD; rw [e]
    rw [← e2]
    exact q _ hf F H _ (Same.refl F) R (.str _)
theorem es_repr {p : Pos} (hg : X.A.guards = some []) (hu : X.A.units + 64 < cLine) (hm : X.mg "repr" = none) (ha : ES X fx W e ma) (gl : Gl X "repr" := by rfl) (he : starEach [e] X.env = (false, eval e X.env) :: starEach [] X.env := by rfl) :
    ES X fx W (.Call (.Name "repr" p) [e] [] pos) (mOp1 fRepr ma) :=
  es_fn1 (call_reprD hg hu) snd_repr hm (by decide +kernel) ha gl (by decide) (by decide) he
end
end BB

namespace BB
open PySem PySem.Spec PyProof.Rows L2
/-! ### a column at a place -/
def colN (s : Sys) (b r c : Nat) : Nat → List Int
  | 0 => s.starts
  | t + 1 => folL s (colN s b r c t) (((r / b ^ t % b : Nat) : Int), ((c / b ^ t % b : Nat) : Int))
def entL (s : Sys) (b lv r c : Nat) : Int := dotL s.facs (colN s b r c lv)
theorem dig_in {s : Sys} {b r c t : Nat} (hm : s.mats.length = b) (h1 : 1 ≤ b) : InB s (((r / b ^ t % b : Nat) : Int), ((c / b ^ t % b : Nat) : Int)) := by
  have g1 := Nat.mod_lt (r / b ^ t) h1
  have g2 := Nat.mod_lt (c / b ^ t) h1
  refine ⟨?_, ?_, ?_, ?_⟩ <;> simp only [hm] <;> omega
theorem SysOk.col {s : Sys} {n a k b r c : Nat} (hs : SysOk s n a) (hst : Bd k s.starts) (hm : s.mats.length = b) (h1 : 1 ≤ b) : ∀ t, (colN s b r c t).length = n ∧ Bd (k + t * (a + 11)) (colN s b r c t)
  | 0 => ⟨hs.st, by rw [Nat.zero_mul]; exact hst⟩
  | t + 1 => by
    obtain ⟨g1, g2⟩ := SysOk.col (r := r) (c := c) hs hst hm h1 t
    obtain ⟨f1, f2⟩ := hs.fol g2 (dig_in (r := r) (c := c) (t := t) hm h1)
    refine ⟨f1, ?_⟩
    have := f2.bd
    rw [Nat.succ_mul]
    exact this.mono (by omega)
/-! ### the numbers of the named tables, by names -/
theorem dot_bump : ∀ {row ys : List Int} {i : Nat} {k y : Int}, row.length = ys.length → ys[i]? = some y → dotL (bump row i k) ys = dotL row ys + k * y
  | [], ys, i, k, y, hl, h => by
    have : ys = [] := List.length_eq_zero_iff.mp hl.symm
    subst this
    simp at h
  | a :: row, [], i, k, y, hl, h => by simp at hl
  | a :: row, b :: ys, 0, k, y, hl, h => by
    simp at h
    subst h
    unfold dotL bump
    simp only [List.set_cons_zero, List.zipWith_cons_cons, List.sum_cons, List.getD_cons_zero]
    rw [Int.add_mul]
    omega
  | a :: row, b :: ys, i + 1, k, y, hl, h => by
    have ih := dot_bump (row := row) (ys := ys) (i := i) (k := k) (y := y) (by simpa using hl) (by simpa using h)
    unfold dotL bump at ih ⊢
    simp only [List.set_cons_succ, List.zipWith_cons_cons, List.sum_cons, List.getD_cons_succ] at ih ⊢
    rw [ih]
    omega
theorem idx_get {ns : List Str} {x : Str} (h : x ∈ ns) : ns[idxL ns x]? = some x := by
  have hl := idxL_lt h
  rw [List.getElem?_eq_getElem hl]
  have := List.findIdx_getElem (w := hl) (p := (· == x)) (xs := ns)
  have e : ns[List.findIdx (fun y => y == x) ns]'hl = x := by simpa using this
  exact congrArg some e
theorem dot_rows {ns : List Str} {g : Str → Int} : ∀ {f : Form} {row : List Int}, row.length = ns.length → (∀ c, c ∈ f → c.2 ∈ ns) →
    dotL (rowFrom ns f row) (ns.map g) = dotL row (ns.map g) + (f.map fun c => c.1 * g c.2).sum
  | [], row, _, _ => by simp [rowFrom]
  | c :: f, row, hl, h => by
    have e : rowFrom ns (c :: f) row = rowFrom ns f (bump row (idxL ns c.2) c.1) := rfl
    rw [e, dot_rows (by rw [bump_len]; exact hl) fun d hd => h d (List.mem_cons_of_mem _ hd),
      dot_bump (y := g c.2) (by rw [List.length_map]; exact hl) (by rw [List.getElem?_map, idx_get (h c List.mem_cons_self)]; rfl), List.map_cons, List.sum_cons]
    omega
theorem dot_zero : ∀ (n : Nat) (ys : List Int), dotL (List.replicate n 0) ys = 0
  | 0, ys => by unfold dotL; rfl
  | n + 1, [] => rfl
  | n + 1, y :: ys => by
    have := dot_zero n ys
    unfold dotL at this ⊢
    rw [List.replicate_succ, List.zipWith_cons_cons, List.sum_cons, this]
    omega
theorem dot_row {ns : List Str} {g : Str → Int} {f : Form} (h : ∀ c, c ∈ f → c.2 ∈ ns) : dotL (rowL ns f) (ns.map g) = (f.map fun c => c.1 * g c.2).sum := by
  unfold rowL
  rw [dot_rows (by rw [List.length_replicate]) h, dot_zero]
  omega
def findL (ls : List Line) (x : Str) : Line := (ls.find? fun l => l.1 == x).getD ("", 0, [])
def valN (b : Nat) (ls : List Line) (r c : Nat) : Nat → Str → Int
  | 0, x => (findL ls x).2.1
  | t + 1, x => ((formAt (findL ls x).2.2 ((r / b ^ t % b : Nat) : Int) ((c / b ^ t % b : Nat) : Int)).map fun k => k.1 * valN b ls r c t k.2).sum
theorem find_of : ∀ {ls : List Line} {x : Line}, (nmsOf ls).Nodup → x ∈ ls → findL ls x.1 = x
  | l :: ls, x, hn, h => by
    unfold nmsOf at hn
    rw [List.map_cons, List.nodup_cons] at hn
    unfold findL
    rw [List.find?_cons]
    rcases List.mem_cons.mp h with e | h
    · subst e
      simp
    · have ne : (l.1 == x.1) = false := by
        rw [beq_eq_false_iff_ne]
        exact fun e => hn.1 (by rw [e]; exact List.mem_map_of_mem h)
      rw [ne]
      have := find_of (ls := ls) hn.2 h
      unfold findL at this
      exact this
  | [], _, _, h => by cases h
theorem fol_lines {b : Nat} {ls : List Line} {sh : List Int} {u l : Nat} (hu : u < b) (hl : l < b) (col : List Int) : folL (sysOf b ls sh) col ((u : Int), (l : Int)) = (matL ls (u : Nat) (l : Nat)).map fun line => dotL line col := by
  have e : matAt (sysOf b ls sh) (u : Int) (l : Int) = matL ls (u : Nat) (l : Nat) := by
    unfold matAt
    have e1 : (sysOf b ls sh).mats[u]? = some ((List.range b).map fun l : Nat => matL ls (u : Nat) (l : Nat)) := by
      unfold sysOf
      rw [List.getElem?_map, List.getElem?_range hu]; rfl
    rw [atI_nat e1, Option.bind_some, atI_nat (x := matL ls (u : Nat) (l : Nat)) (by rw [List.getElem?_map, List.getElem?_range hl]; rfl)]
    rfl
  unfold folL
  rw [e]
theorem col_val {b : Nat} {ls : List Line} {sh : List Int} (hb : BookOk b ls) (h1 : 1 ≤ b) (hn : (nmsOf ls).Nodup) (r c : Nat) : ∀ t, colN (sysOf b ls sh) b r c t = (nmsOf ls).map (valN b ls r c t)
  | 0 => by
    show (ls.map fun x => x.2.1) = _
    unfold nmsOf
    rw [List.map_map]
    refine List.map_congr_left fun x hx => ?_
    show x.2.1 = (findL ls x.1).2.1
    rw [find_of hn hx]
  | t + 1 => by
    have g1 := Nat.mod_lt (r / b ^ t) h1
    have g2 := Nat.mod_lt (c / b ^ t) h1
    show folL (sysOf b ls sh) (colN (sysOf b ls sh) b r c t) (((r / b ^ t % b : Nat) : Int), ((c / b ^ t % b : Nat) : Int)) = _
    rw [fol_lines g1 g2, col_val hb h1 hn r c t]
    unfold matL
    rw [List.map_map, show nmsOf ls = ls.map fun x => x.1 from rfl, List.map_map (f := fun x : Line => x.1) (g := valN b ls r c (t + 1)), ← show nmsOf ls = ls.map fun x => x.1 from rfl]
    refine List.map_congr_left fun x hx => ?_
    obtain ⟨_, _, _, h3⟩ := hb.at hx (u := ((r / b ^ t % b : Nat) : Int)) (l := ((c / b ^ t % b : Nat) : Int)) ⟨by omega, by omega, by omega, by omega⟩
    show dotL (rowL (nmsOf ls) (formAt x.2.2 ((r / b ^ t % b : Nat) : Int) ((c / b ^ t % b : Nat) : Int))) ((nmsOf ls).map (valN b ls r c t)) = valN b ls r c (t + 1) x.1
    rw [dot_row h3]
    show _ = ((formAt (findL ls x.1).2.2 _ _).map fun k => k.1 * valN b ls r c t k.2).sum
    rw [find_of hn hx]
theorem dot_unit : ∀ (ys : List Int) (k : Nat) (y : Int), ys[k]? = some y → dotL (unitL ys.length k) ys = y := by
  have main : ∀ (ys : List Int) (k j : Nat) (y : Int), ys[k]? = some y → dotL ((List.range' j ys.length).map fun i : Nat => if decide ((((k + j : Nat)) : Int) = ((i : Nat) : Int)) = true then (1 : Int) else 0) ys = y := by
    intro ys
    induction ys with
    | nil => intro k j y h; simp at h
    | cons a ys ih =>
      intro k j y h
      rw [List.length_cons, List.range'_succ, List.map_cons]
      unfold dotL at ih ⊢
      rw [List.zipWith_cons_cons, List.sum_cons]
      cases k with
      | zero =>
        simp at h
        subst h
        have z : ∀ (zs : List Int) (j' : Nat), j < j' → (List.zipWith (fun x y => x * y) ((List.range' j' zs.length).map fun i : Nat => if decide ((((0 + j : Nat)) : Int) = ((i : Nat) : Int)) = true then (1 : Int) else 0) zs).sum = 0 := by
          intro zs
          induction zs with
          | nil => intro j' _; rfl
          | cons c zs ihz =>
            intro j' hj
            rw [List.length_cons, List.range'_succ, List.map_cons, List.zipWith_cons_cons, List.sum_cons, ihz (j' + 1) (by omega), decide_eq_false (by omega)]
            simp
        rw [z ys (j + 1) (by omega), decide_eq_true (by omega)]
        simp
      | succ k =>
        have := ih k (j + 1) y (by simpa using h)
        rw [show k + 1 + j = k + (j + 1) by omega, this, decide_eq_false (by omega)]
        simp
  intro ys k y h
  have := main ys k 0 y h
  unfold unitL
  rw [List.range_eq_range']
  exact this
end BB

namespace BB
open PySem PySem.Spec PyProof.Rows L2
/-! ### calls whose arguments are all named -/
def pick {α : Type} (pm : List Nat) (ws : List α) : List α := pm.filterMap fun i => ws[i]?
/-- how a call with us ahead and keywords ks binds: the keywords' values in the sequence pm -/
structure KwB (fd : FuncData) (ps ks : List Str) (pm : List Nat) (n : Nat) : Prop where
  to : ∀ (s : Shared) (us ws : List Value), us.length = n → ws.length = ks.length → BindsTo s fd ⟨us, ks.zip ws⟩ (ps.zip (us ++ pick pm ws))
theorem kw_of {K : PySem.W.Frag} {x qual : Str} {st : Stmt} {f : Addr} {fd : FuncData} {ps ks : List Str} {pm : List Nat} {n : Nat} (F : Fun K x qual st f fd)
    (h : ∀ (kV doc pm' : Value) (an : Option Addr) (cdv ct : Value) (us ws : List Value), us.length = n → ws.length = ks.length → bindArgs (PySem.W.fnOf x qual (defArgs st) (defBody st) (defScope st) .none kV doc pm' an cdv ct) ⟨us, ks.zip ws⟩ = pure (ps.zip (us ++ pick pm ws))) :
    KwB fd ps ks pm n := by
  obtain ⟨oc, od, kV, doc, pm', an, cdv, ct, osl, hfd, look, code⟩ := F.ex
  subst hfd
  exact ⟨fun s us ws l1 l2 => BindsTo.of_eq (h kV doc pm' an cdv ct us ws l1 l2)⟩
theorem pick_vals {vs : List V} {us : List Value} (r : Vals vs us) : ∀ pm : List Nat, Vals (pick pm vs) (pick pm us)
  | [] => .nil
  | i :: pm => by
    have ih := pick_vals r pm
    unfold pick at ih ⊢
    rw [List.filterMap_cons, List.filterMap_cons]
    have hl := r.length
    by_cases hi : i < vs.length
    · have e1 : vs[i]? = some vs[i] := List.getElem?_eq_getElem hi
      obtain ⟨u, e2, r2⟩ := Vals.get r e1
      rw [e1, e2]
      exact .cons r2 ih
    · rw [List.getElem?_eq_none (by omega), List.getElem?_eq_none (by omega)]
      exact ih
section
variable {X : Cx} {K : PySem.W.Frag} {F F' G G' H H' : Hp} {fx : List (Nat × Addr)} {W : WX} {ρ ρ' ρ1 ρ2 : DE} {σ σ' : L2.St} {pos pos' kpos apos : Pos} {e a b c o : Expr} {es : List Expr} {m ma mb mc mo : M} {ml : ML} {mg : MA} {v : V} {d : D} {kws : List Keyword} {nm : Option Str}
abbrev EK (X : Cx) (fx : List (Nat × Addr)) (W : WX) (kws : List Keyword) (m : ML) : Prop := PK X kws (tSL X.K fx W m)
theorem pk_imp {t t' : TA} (h : PK X kws t) (i : ∀ σ H Q, t' σ H Q → t σ H Q) : PK X kws t' := ⟨fun w pins s σ H Q I q => h.run w pins s σ H Q I (i σ H Q q)⟩
theorem ek_nil : EK X fx W [] lNil := pk_imp pk_nil fun σ H Q ⟨F, G, ρ, Q0, X0, R, h, q, x⟩ => q _ _ h F H _ (Same.refl F) R .nil
theorem ek_cons (hm : ES X fx W e m) (hr : EK X fx W kws ml) : EK X fx W (⟨nm, e, kpos⟩ :: kws) (lCons m ml) := by
  refine pk_imp (pk_cons hm hr) fun σ H Q ⟨F, G, ρ, Q0, X0, R, h, q, x⟩ => ⟨F, G, ρ, _, X0, R, h, fun r ρ1 h1 F1 H1 v1 s1 R1 k1 => ?_, x⟩
  obtain ⟨d, ρ2, e1, h1⟩ := onC_some h1
  obtain ⟨F2, s2, R2, k2⟩ := k1.cap R1 e1
  exact ⟨F2, G, ρ2, _, X0, R2, h1, fun ds ρ3 h3 F3 H3 vs s3 R3 k3 => q _ _ h3 F3 H3 _ ((s1.trans s2).trans s3) R3 (.cons (k2.mono s3) k3), x.mono (s1.trans s2)⟩
def aKw (n : Nat) (pm : List Nat) (ml : ML) : MA := fun ρ QA Xx => ml ρ (fun ds ρ1 => ds.length = n ∧ QA ((pick pm ds).map AA.d) ρ1) Xx
theorem datL_pick {vs : List V} {ds : List D} (r : DatL K F vs ds) : ∀ pm : List Nat, DatL K F (pick pm vs) (pick pm ds)
  | [] => .nil
  | i :: pm => by
    have ih := datL_pick r pm
    unfold pick at ih ⊢
    rw [List.filterMap_cons, List.filterMap_cons]
    have hl := r.length
    by_cases hi : i < ds.length
    · have e1 : ds[i]? = some ds[i] := List.getElem?_eq_getElem hi
      obtain ⟨u, e2, r2⟩ := r.get e1
      rw [e1, e2]
      exact .cons r2 ih
    · rw [List.getElem?_eq_none (by omega), List.getElem?_eq_none (by omega)]
      exact ih
theorem aa_dat : ∀ {ds : List D} {vs : List V}, DatL K F vs ds → AaOk K F ρ σ (ds.map AA.d) vs
  | [], _, h => by cases h; trivial
  | d :: ds, _, h => by
    cases h with
    | cons h1 h2 => exact ⟨h1, aa_dat h2⟩
theorem tsa_kw {n : Nat} {pm : List Nat} {Q : List V → Hp → Prop} (h : tSA K fx W (aKw n pm ml) σ H Q) : tSL K fx W ml σ H fun zs H1 => zs.length = n ∧ Q (pick pm zs) H1 := by
  obtain ⟨F, G, ρ, Q0, X0, R, h, q, x⟩ := h
  exact ⟨F, G, ρ, _, X0, R, h, fun ds ρ1 h1 F1 H1 vs s1 R1 k1 => ⟨k1.length.trans h1.1, q _ _ h1.2 F1 H1 _ s1 R1 (aa_dat (datL_pick k1 pm))⟩, x⟩
section
variable {k n : Nat} {f C p g : Addr} {fd : FuncData} {ps ks : List Str} {fs : FS} {x mt : Str} {q : Pos} {pm : List Nat}
/-- what a def promises around X -/
def RunsX (X : Cx) (f : Addr) (fd : FuncData) (ps : List Str) (fs : FS) : Prop := ∀ (s : Shared) (H : Hp) (args : Args) (us : List Value) (vs : List V) (Q : VK) (E : XK),
  Env0 X.prog X.w X.K X.mg X.base X.A X.stack s H → BindsTo s fd args (ps.zip us) → Vals vs us → spF X.K ps.length fs vs H Q E → codeAny (model X.prog X.w) X.A (.call (.ref f) args) (CR (L2.CX X.prog X.w) X.stack X.prog X.w H s Q E) s
theorem runsD (Fo : FnD X.prog X.w X.K X.mg X.base k f fd ps fs) (hr : Room k X.A) : RunsX X f fd ps fs := fun s H args us vs Q E => Fo.run X.A X.stack s H args us vs Q E hr
theorem runsG (Fo : FnG X.prog X.w X.K X.mg X.base k f fd ps fs) (hg : X.A.guards = some []) (hr : Room k X.A) : RunsX X f fd ps fs := fun s H args us vs Q E => Fo.run X.A X.stack s H args us vs Q E hg hr
theorem run_kw {E : L2.St → XK} {pins : List (Addr × Obj)} {s : Shared} {Q : VK} {us ws : List Value} {vs zs : List V} (Fo : RunsX X f fd ps fs) (hb : KwB fd ps ks pm n) (hx : PassesAt (L2.CX X.prog X.w) X σ (E σ))
    (I : Inv X pins σ H s) (r : Vals vs us) (rz : Vals zs ws) (l1 : vs.length = n) (l2 : zs.length = ks.length) (h : spF X.K ps.length fs (vs ++ pick pm zs) H Q (E σ)) : wpAny (model X.prog X.w) X.A (call (.ref f) us (ks.zip ws)) (EP X pins σ Q) X.xe s := by
  refine wpAny_call (codeAny_mono (Fo s H ⟨us, ks.zip ws⟩ (us ++ pick pm ws) _ Q (E σ) I.env0 (hb.to s us ws (by rw [← r.length]; exact l1) (by rw [← rz.length]; exact l2)) (r.append (pick_vals rz pm)) h) fun out s' got => ?_)
  match out, got with
  | .error e, got => exact hx pins H s e s' I got
  | .ok (.ret u), got => exact I.after got
  | .ok .next, got => exact False.elim got
  | .ok .brk, got => exact False.elim got
  | .ok .cont, got => exact False.elim got
theorem es_callK (Fo : RunsX X f fd ps fs) (hm : X.mg x = some (.ref f)) (hk : PySem.W.keepIn X.K (.ref f) = true) (hb : KwB fd ps ks pm 0) (tk : Takes X W) (ha : EK X fx W kws ml) (gl : Gl X x := by rfl)
    (hall : (backToKw pos (keywordEach kws X.env)).all (·.1.isSome) = true := by rfl) (hks : (backToKw pos (keywordEach kws X.env)).filterMap (·.1) = ks := by rfl) (hdb : (x == ("__debug__" : Str)) = false := by decide)
    (hpl : ((backTo pos (starEach [] X.env)).any (·.1) || (backToKw pos (keywordEach kws X.env)).any (·.1.isNone)) = false := by rfl) :
    ES X fx W (.Call (.Name x q) [] kws pos) (mCall ps.length fs (aKw ks.length pm ml)) := by
  refine pe_imp (t := tCallSD (spF X.K ps.length fs) [] (WE W) (tSA X.K fx W (aKw ks.length pm ml))) (pe_imp (t := fun σ H Q => tSL X.K fx W ml σ H fun zs H1 => zs.length = ks.length ∧ spF X.K ps.length fs (pick pm zs ++ []) H1 Q (WE W σ)) ⟨fun pins s σ H Q I h => ?_⟩ fun _ _ _ h => tsa_kw h) fun _ _ _ h => ts_call h
  refine wpAny_Call_Name_kw (ld_glob I gl hm ?_ hdb)
  refine PySem.W.callWith_KW0 (h₀ := X.base) I.ok.mod.kin hk hall (thn (ha.run pos pins s σ H _ I h) fun ws s2 got => ?_) hpl
  obtain ⟨zs, H2, I2, rz, l2, z⟩ := got
  rw [List.append_nil] at z
  refine ⟨I2.kIn, ?_⟩
  rw [hks]
  exact run_kw (us := []) (vs := []) Fo hb (passAt tk σ) I2 .nil rz rfl l2 z
theorem es_methK {pl : Sem Bool} (hc : Cls X.K C) (hm : Meth X.K C mt f) (Fo : FnD X.prog X.w X.K X.mg X.base k f fd ps fs) (hr : Room k X.A) (hb : KwB fd ps ks pm 1) (tk : Takes X W) (ho : ES X fx W o mo) (ha : EK X fx W kws ml)
    (hall : (backToKw pos (keywordEach kws X.env)).all (·.1.isSome) = true := by rfl) (hks : (backToKw pos (keywordEach kws X.env)).filterMap (·.1) = ks := by rfl)
    (hpl : ((backTo pos (starEach [] X.env)).any (·.1) || (backToKw pos (keywordEach kws X.env)).any (·.1.isNone)) = false := by rfl)
    (ht : eval (.Call (.Attribute o mt apos) [] kws pos) X.env = (do
      let ov ← eval o X.env
      standAt apos.atName
      let (f, first) ← holding [ov] (getMethod ov mt pl)
      callWith pos f first (backTo pos (starEach [] X.env)) (backToKw pos (keywordEach kws X.env))) := by rfl) :
    ES X fx W (.Call (.Attribute o mt apos) [] kws pos) (mMeth ps.length fs (mSelf C mt mo) (aKw ks.length pm ml)) := by
  refine pe_imp (t := fun σ H Q => tS X.K fx W mo σ H fun x H1 => ∃ a dx gs, x = .ref a ∧ H1 a = some (.ins C dx gs) ∧ gs.lookup mt = none ∧ tSL X.K fx W ml σ H1 fun zs H2 => zs.length = ks.length ∧ spF X.K ps.length fs (x :: pick pm zs) H2 Q (WE W σ)) ⟨fun pins s σ H Q I h => ?_⟩ fun σ H Q h => ?_
  · refine PySem.W.methodCall_KW (pl := pl) (thn (ho.run pins s σ H _ I h) fun u s1 got => ?_) ht
    obtain ⟨x, H1, I1, rx, a, dx, gs, ex, ea, l, z⟩ := got
    subst ex
    obtain rfl : u = Value.ref a := rx
    refine getmeth_ok I1 ea hc hm l (PySem.W.callWith_KW0 (first := [.ref a]) (h₀ := X.base) I.ok.mod.kin hm.kp hall (thn (ha.run pos pins s1 σ H1 _ I1 z) fun ws s2 got => ?_) hpl)
    obtain ⟨zs, H2, I2, rz, l2, z2⟩ := got
    refine ⟨I2.kIn, ?_⟩
    rw [hks, List.append_nil]
    exact run_kw (us := [.ref a]) (vs := [.ref a]) (runsD Fo hr) hb (passAt tk σ) I2 (.cons rfl .nil) rz rfl l2 z2
  · obtain ⟨F, G, ρ, Q0, X0, R, h, q, x⟩ := ts_meth h
    refine ⟨F, G, ρ, Q0, X0, R, h, fun r ρ' hr F' H' v s1 R1 k1 => ?_, x⟩
    obtain ⟨a, dx, gs, e1, e2, e3, z⟩ := q r ρ' hr F' H' v s1 R1 k1
    exact ⟨a, dx, gs, e1, e2, e3, tsa_kw z⟩
theorem run_makeKw {E : L2.St → XK} {pins : List (Addr × Obj)} {s : Shared} {Q : VK} {ws : List Value} {zs : List V} (M : Mk X.K C f) (Fo : FnD X.prog X.w X.K X.mg X.base k f fd ps fs) (hr : Room (k + 1) X.A) (hb : KwB fd ps ks pm 1) (hx : PassesAt (L2.CX X.prog X.w) X σ (E σ))
    (I : Inv X pins σ H s) (rz : Vals zs ws) (l2 : zs.length = ks.length)
    (h : ∀ y dx, H y = none → H dx = none → dx ≠ y → spF X.K ps.length fs (.ref y :: pick pm zs) (upd (upd H dx (.own y)) y (.ins C dx [])) (fun v H2 => v = .non ∧ Q (.ref y) H2) (E σ)) :
    wpAny (model X.prog X.w) X.A (call (.ref C) [] (ks.zip ws)) (EP X pins σ Q) X.xe s := by
  have hq := h (s.heap.objs.size + 1) s.heap.objs.size (I.hok.fresh (Nat.le_succ _)) (I.hok.fresh (Nat.le_refl _)) (Nat.ne_of_lt (Nat.lt_succ_self _))
  have J := Inv.made (C := C) I
  refine wpAny_call (make_map (f := f) I.kIn M.makes M.init (beq_iff_eq.mp M.fn) (codeAny_mono (Fo.run _ X.stack _ _ ⟨[Value.ref (s.heap.objs.size + 1)], ks.zip ws⟩ (Value.ref (s.heap.objs.size + 1) :: pick pm ws) (.ref (s.heap.objs.size + 1) :: pick pm zs) _ (E σ) (hr.make C [] (ks.zip ws))
    (J.env0.make C [] (ks.zip ws)) (hb.to _ [_] ws rfl (by rw [← rz.length]; exact l2)) (.cons rfl (pick_vals rz pm)) hq) fun out s' got => ?_))
  match out, got with
  | .error e, got => exact hx pins _ _ e s' J got
  | .ok .next, got => exact False.elim got
  | .ok .brk, got => exact False.elim got
  | .ok .cont, got => exact False.elim got
  | .ok (.ret u), got =>
    obtain ⟨v, H', I3, rv, ev, q3⟩ := J.after got
    subst ev
    exact ⟨rv, ⟨V.ref (s.heap.objs.size + 1), H', I3, rfl, q3⟩⟩
theorem es_makeK (M : Mk X.K C f) (Fo : FnD X.prog X.w X.K X.mg X.base k f fd ps fs) (hr : Room (k + 1) X.A) (hm : X.mg x = some (.ref C)) (hb : KwB fd ps ks pm 1) (tk : Takes X W) (ha : EK X fx W kws ml) (gl : Gl X x := by rfl)
    (hall : (backToKw pos (keywordEach kws X.env)).all (·.1.isSome) = true := by rfl) (hks : (backToKw pos (keywordEach kws X.env)).filterMap (·.1) = ks := by rfl) (hdb : (x == ("__debug__" : Str)) = false := by decide)
    (hpl : ((backTo pos (starEach [] X.env)).any (·.1) || (backToKw pos (keywordEach kws X.env)).any (·.1.isNone)) = false := by rfl) :
    ES X fx W (.Call (.Name x q) [] kws pos) (mMake ps.length C fs (aKw ks.length pm ml)) := by
  refine pe_imp (t := tMakeS C (spF X.K ps.length fs) (WE W) (tSA X.K fx W (aKw ks.length pm ml))) (pe_imp (t := fun σ H Q => tSL X.K fx W ml σ H fun zs H1 => zs.length = ks.length ∧ ∀ y dx, H1 y = none → H1 dx = none → dx ≠ y →
      spF X.K ps.length fs (.ref y :: pick pm zs) (upd (upd H1 dx (.own y)) y (.ins C dx [])) (fun v H2 => v = .non ∧ Q (.ref y) H2) (WE W σ)) ⟨fun pins s σ H Q I h => ?_⟩ fun _ _ _ h => tsa_kw h) fun _ _ _ h => ts_make h
  refine wpAny_Call_Name_kw (ld_glob I gl hm ?_ hdb)
  refine PySem.W.callWith_KW0 (h₀ := X.base) I.ok.mod.kin M.kp hall (thn (ha.run pos pins s σ H _ I h) fun ws s2 got => ?_) hpl
  obtain ⟨zs, H2, I2, rz, l2, z⟩ := got
  refine ⟨I2.kIn, ?_⟩
  rw [hks]
  exact run_makeKw M Fo hr hb (passAt tk σ) I2 rz l2 z
end
end
end BB

namespace BB
open PySem PySem.Spec PyProof.Rows L2
/-! ### books that a law draws -/
structure LineOk (b : Nat) (L : List Str) (x : Line) : Prop where
  sq : x.2.2.length = b ∧ ∀ r, r ∈ x.2.2 → r.length = b
  st : x.2.1.natAbs ≤ 99
  fm : ∀ r, r ∈ x.2.2 → ∀ f, f ∈ r → f.length ≤ 4 ∧ ∀ k, k ∈ f → k.1.natAbs ≤ 9 ∧ k.2 ∈ L
structure KindOk (b : Nat) (ls : List Line) : Prop where
  bi : BookIn b ls
  ln : ∀ x, x ∈ ls → LineOk b (nmsOf ls) x
  ne : 1 ≤ ls.length
  six : ls.length ≤ 6
def sixS : List Str := ["t", "d", "u", "f", "q", "w"]
theorem row_bd (ns : List Str) : ∀ (f : Form) (row : List Int) (m : Nat), BdN m row → (∀ k, k ∈ f → k.1.natAbs ≤ 9) → BdN (m + 9 * f.length) (rowFrom ns f row)
  | [], row, m, h, _ => h
  | c :: f, row, m, h, hk => by
    have e : rowFrom ns (c :: f) row = rowFrom ns f (bump row (idxL ns c.2) c.1) := rfl
    rw [e]
    refine (row_bd ns f (bump row (idxL ns c.2) c.1) (m + 9) ?_ fun k hk' => hk k (List.mem_cons_of_mem _ hk')).mono (by rw [List.length_cons]; omega)
    intro x hx
    have h9 := hk c List.mem_cons_self
    unfold bump at hx
    rcases List.mem_or_eq_of_mem_set hx with hx | rfl
    · have := h x hx
      omega
    · by_cases hi : idxL ns c.2 < row.length
      · rw [List.getD_eq_getElem?_getD, List.getElem?_eq_getElem hi]
        have := h _ (List.getElem_mem hi)
        simp only [Option.getD_some]
        omega
      · rw [List.getD_eq_getElem?_getD, List.getElem?_eq_none (by omega)]
        simp only [Option.getD_none]
        omega
theorem KindOk.tab {b : Nat} {ls : List Line} {sh : List Int} {a : Nat} (h : KindOk b ls) (hl : sh.length = ls.length) (hs : Bd a sh) (ha : 7 ≤ a) : TabOk b ls sh a where
  bk := h.bi.ok
  ln := hl
  ma := fun x hx u l hp => by
    obtain ⟨r, e1, e2, _⟩ := h.bi.ok.at hx hp
    obtain ⟨h1, h2, h3, h4⟩ := hp
    have hf : ∀ f, (∃ r, r ∈ x.2.2 ∧ f ∈ r) → f.length ≤ 4 ∧ ∀ k, k ∈ f → k.1.natAbs ≤ 9 := fun f ⟨r, hr, hf⟩ => ⟨((h.ln x hx).fm r hr f hf).1, fun k hk => (((h.ln x hx).fm r hr f hf).2 k hk).1⟩
    have mem : ∀ {α : Type} {xs : List α} {i : Int} {y : α}, atI xs i = some y → y ∈ xs := fun {α xs i y} e => by
      unfold atI at e
      cases q : ixN xs.length i with
      | none => rw [q] at e; cases e
      | some j =>
        rw [q] at e
        exact List.mem_of_getElem? e
    obtain ⟨g1, g2⟩ := hf _ ⟨r, mem e1, mem e2⟩
    have := row_bd (nmsOf ls) (formAt x.2.2 u l) (List.replicate (nmsOf ls).length 0) 0 (fun x hx => by rw [List.eq_of_mem_replicate hx]; exact Nat.le_refl _) g2
    intro z hz
    have q := this z hz
    have : 2 ^ 7 ≤ 2 ^ a := Nat.pow_le_pow_right (by decide) ha
    omega
  st := fun x hx => by
    obtain ⟨y, hy, rfl⟩ := List.mem_map.mp hx
    have := (h.ln y hy).st
    have : 2 ^ 7 ≤ 2 ^ a := Nat.pow_le_pow_right (by decide) ha
    omega
  fc := hs
theorem six_ok : ∀ x, x ∈ sixS → OkS x ∧ isNm x = true ∧ x.length ≤ sizeLine := by
  intro x hx
  have hz : sizeLine = 16777216 := sizeLine_eq
  rw [hz]
  simp only [sixS, List.mem_cons, List.not_mem_nil, or_false] at hx
  rcases hx with rfl | rfl | rfl | rfl | rfl | rfl <;> exact ⟨by unfold OkS; decide +kernel, by decide +kernel, by decide +kernel⟩
theorem kind_mk {b : Nat} {ls : List Line} {L : List Str} (hb : b = 2 ∨ b = 3) (hp : (nmsOf ls).Perm L) (h6 : ∀ x, x ∈ L → x ∈ sixS) (hn : L.Nodup) (h1 : 1 ≤ L.length) (h2 : L.length ≤ 6) (hl : ∀ x, x ∈ ls → LineOk b L x) : KindOk b ls := by
  have hlen : ls.length = L.length := by rw [← nms_len]; exact hp.length_eq
  have hl' : ∀ x, x ∈ ls → LineOk b (nmsOf ls) x := fun x hx => ⟨(hl x hx).sq, (hl x hx).st, fun r hr f hf => ⟨((hl x hx).fm r hr f hf).1, fun k hk => ⟨(((hl x hx).fm r hr f hf).2 k hk).1, hp.mem_iff.mpr (((hl x hx).fm r hr f hf).2 k hk).2⟩⟩⟩
  have ok : ∀ x, x ∈ nmsOf ls → OkS x ∧ isNm x = true ∧ x.length ≤ sizeLine := fun x hx => six_ok x (h6 x (hp.mem_iff.mp hx))
  refine ⟨⟨⟨by omega, by omega, fun x hx => (ok x hx).1, fun x hx => (hl' x hx).sq, fun x hx r hr f hf c hc => (((hl' x hx).fm r hr f hf).2 c hc).2⟩, by omega, (hp.nodup_iff).mpr hn, fun x hx => (ok x hx).2.1, fun x hx => (ok x hx).2.2, fun x hx r hr f hf => by have := ((hl' x hx).fm r hr f hf).1; omega⟩, hl', by omega, by omega⟩
/-- a well known book, looked at -/
theorem kind_known {ls : List Line} (hb : BookIn 2 ls) (h1 : 1 ≤ ls.length) (h6 : ls.length ≤ 6)
    (h : (ls.all fun x => decide (x.2.1.natAbs ≤ 99) && x.2.2.all fun r => r.all fun f => decide (f.length ≤ 4) && f.all fun k => decide (k.1.natAbs ≤ 9)) = true) : KindOk 2 ls := by
  refine ⟨hb, fun x hx => ?_, h1, h6⟩
  have hx' := List.all_eq_true.mp h x hx
  rw [Bool.and_eq_true] at hx'
  refine ⟨hb.ok.sq x hx, of_decide_eq_true hx'.1, fun r hr f hf => ?_⟩
  have hf' := List.all_eq_true.mp (List.all_eq_true.mp hx'.2 r hr) f hf
  rw [Bool.and_eq_true] at hf'
  exact ⟨of_decide_eq_true hf'.1, fun k hk => ⟨of_decide_eq_true (List.all_eq_true.mp hf'.2 k hk), hb.ok.fm x hx r hr f hf k hk⟩⟩
/-! ### an empty dict -/
section
variable {X : Cx} {K : PySem.W.Frag} {F G H : Hp} {fx : List (Nat × Addr)} {W : WX} {ρ : DE} {σ : L2.St} {pos : Pos}
def mDict0 : M := fun ρ Q _ => Q (.o (.od [])) ρ
theorem es_dict0 : ES X fx W (.Dict [] [] pos) mDict0 := by
  refine pe_imp pe_dnewK fun σ H Q ⟨F, G, ρ, Q0, X0, R, h, q, x⟩ p hp => ?_
  obtain ⟨R1, h1, h2, h3⟩ := R.new (o := .dK []) hp
  exact q _ _ h F _ _ (Same.refl F) R1 ⟨rfl, p, _, rfl, upd_same, h1, h2, .nil, h3⟩
end
end BB
namespace BB
open PySem PySem.Spec PyProof.Rows L2
theorem cut6 {j : Nat} (h : j ≤ 5) : cut (sixS.map D.str) none (some (1 + (j : Int))) = (sixS.take (j + 1)).map D.str := by
  obtain rfl | rfl | rfl | rfl | rfl | rfl : j = 0 ∨ j = 1 ∨ j = 2 ∨ j = 3 ∨ j = 4 ∨ j = 5 := by omega
  all_goals rfl
theorem six_nodup : sixS.Nodup := by decide +kernel
theorem ins_perm {α : Type} (l : List α) (i : Nat) (x : α) : (l.take i ++ [x] ++ l.drop i).Perm (x :: l) := by
  have h : (l.take i ++ l.drop i).Perm l := by rw [List.take_append_drop]
  rw [List.append_assoc]
  exact (List.perm_middle).trans (List.Perm.cons x h)
theorem log_len {n : Nat} (h : 1 ≤ n) (h4 : n ≤ 1000) : ((n : Nat) : Int).natAbs.log2 < 9000 := by
  rw [Int.natAbs_natCast, Nat.log2_lt (by omega)]
  exact Nat.lt_of_le_of_lt h4 (Nat.lt_of_lt_of_le (by decide : 1000 < 2 ^ 10) (Nat.pow_le_pow_right (by decide) (by decide)))
end BB
namespace BB
open PySem PySem.Spec PyProof.Rows L2
/-- rows of blocks that are drawn -/
def RowOk (b : Nat) (L : List Str) (r : List Form) : Prop := ∀ f, f ∈ r → f.length ≤ 4 ∧ ∀ k, k ∈ f → k.1.natAbs ≤ 9 ∧ k.2 ∈ L
abbrev rowD (r : List Form) : D := .lst (r.map formL)
end BB

namespace BB
open PySem PySem.Spec PyProof.Rows L2
/-! ### numbers by names, as a dict -/
def dicF (ns : List Str) (f : Str → Int) : List (Key × D) := ns.map fun x => (Sum.inr x, .int (f x))
def lin (ns : List Str) (f g : Str → Int) : Int := (ns.map fun x => f x * g x).sum
def setF (f : Str → Int) (y : Str) (v : Int) : Str → Int := fun x => if x = y then v else f x
theorem val_map {ns : List Str} {f : Str → D} {x : Str} (h : x ∈ ns) : valD (ns.map fun x => (Sum.inr x, f x)) (.inr x) = some (f x) := by
  induction ns with
  | nil => cases h
  | cons n ns ih =>
    rw [List.map_cons]
    unfold valD
    by_cases e : n = x
    · subst e
      simp
    · have ne : decide ((Sum.inr n : Key) = Sum.inr x) = false := decide_eq_false fun q => e (Sum.inr.inj q)
      rcases List.mem_cons.mp h with q | h
      · exact absurd q.symm e
      · have := ih h
        unfold valD at this
        simp only [List.find?_cons, ne]
        exact this
theorem val_dicF {ns : List Str} {f : Str → Int} {x : Str} (h : x ∈ ns) : valD (dicF ns f) (.inr x) = some (.int (f x)) := val_map (f := fun x => .int (f x)) h
theorem put_dicF {ns : List Str} {f : Str → Int} {y : Str} {v : Int} (h : y ∈ ns) : putD (dicF ns f) (.inr y) (.int v) = dicF ns (setF f y v) := by
  unfold putD
  have ha : ((dicF ns f).any fun kv => decide (kv.1 = Sum.inr y)) = true := by
    rw [List.any_eq_true]
    exact ⟨(Sum.inr y, .int (f y)), List.mem_map.mpr ⟨y, h, rfl⟩, by simp⟩
  rw [if_pos ha]
  unfold dicF
  rw [List.map_map]
  refine List.map_congr_left fun x _ => ?_
  unfold setF
  by_cases e : x = y
  · subst e; simp
  · simp [e]
theorem dicF_len (ns : List Str) (f : Str → Int) : (dicF ns f).length = ns.length := by unfold dicF; rw [List.length_map]
theorem lin_set {ns : List Str} {f g : Str → Int} {y : Str} {v : Int} (hn : ns.Nodup) (h : y ∈ ns) : lin ns (setF f y (f y + v)) g = lin ns f g + v * g y := by
  induction ns with
  | nil => cases h
  | cons n ns ih =>
    unfold lin at ih ⊢
    rw [List.map_cons, List.map_cons, List.sum_cons, List.sum_cons]
    obtain ⟨h1, h2⟩ := List.nodup_cons.mp hn
    by_cases e : n = y
    · subst e
      have : (ns.map fun x => setF f n (f n + v) x * g x) = ns.map fun x => f x * g x := List.map_congr_left fun x hx => by
        have : x ≠ n := fun q => h1 (q ▸ hx)
        simp only [setF, this, if_false]
      rw [this]
      simp only [setF, if_true, Int.add_mul]
      omega
    · rcases List.mem_cons.mp h with q | h
      · exact absurd q.symm e
      · rw [ih h2 h]
        simp only [setF, e, if_false]
        omega
theorem lin_dot : ∀ (ns : List Str) (f g : Str → Int), lin ns f g = dotL (ns.map f) (ns.map g)
  | [], _, _ => rfl
  | n :: ns, f, g => by
    have ih := lin_dot ns f g
    unfold lin dotL at ih ⊢
    rw [List.map_cons, List.map_cons, List.map_cons, List.zipWith_cons_cons, List.sum_cons, List.sum_cons, ih]
def shF (ns : List Str) (sh : List Int) : Str → Int := fun x => sh.getD (idxL ns x) 0
theorem shF_map : ∀ {ns : List Str} {sh : List Int}, ns.Nodup → sh.length = ns.length → ns.map (shF ns sh) = sh := by
  intro ns sh hn hl
  apply List.ext_getElem
  · rw [List.length_map, hl]
  · intro i h1 h2
    rw [List.length_map] at h1
    rw [List.getElem_map]
    unfold shF
    have e : idxL ns ns[i] = i := by
      have hm : ns[i] ∈ ns := List.getElem_mem h1
      have h3 := idx_get hm
      exact (List.getElem?_inj (idxL_lt hm) hn).mp (by rw [h3, List.getElem?_eq_getElem h1])
    rw [e, List.getD_eq_getElem?_getD, List.getElem?_eq_getElem h2]
    rfl
theorem shF_get {ns : List Str} {sh : List Int} {i : Nat} {x : Str} (hn : ns.Nodup) (hx : ns[i]? = some x) : shF ns sh x = sh.getD i 0 := by
  unfold shF
  have hm := List.mem_of_getElem? hx
  have e : idxL ns x = i := (List.getElem?_inj (idxL_lt hm) hn).mp (by rw [idx_get hm, hx])
  rw [e]
/-- no key comes twice -/
theorem merge_nodup {ns : List Str} {f : Str → D} (hn : ns.Nodup) : mergeD [] (ns.map fun x => (Sum.inr x, f x)) = ns.map fun x => (Sum.inr x, f x) := by
  have main : ∀ (ns : List Str) (acc : List (Key × D)), ns.Nodup → (∀ x, x ∈ ns → ∀ kv, kv ∈ acc → kv.1 ≠ Sum.inr x) → mergeD acc (ns.map fun x => (Sum.inr x, f x)) = acc ++ ns.map fun x => (Sum.inr x, f x) := by
    intro ns
    induction ns with
    | nil => intro acc _ _; simp [mergeD]
    | cons n ns ih =>
      intro acc hn ha
      obtain ⟨h1, h2⟩ := List.nodup_cons.mp hn
      rw [List.map_cons]
      show mergeD (putD acc (Sum.inr n) (f n)) _ = _
      have e : putD acc (Sum.inr n) (f n) = acc ++ [(Sum.inr n, f n)] := by
        unfold putD
        rw [if_neg]
        intro q
        obtain ⟨kv, hk, e⟩ := List.any_eq_true.mp q
        exact ha n List.mem_cons_self kv hk (of_decide_eq_true e)
      rw [e, ih _ h2 fun x hx kv hk => ?_]
      · rw [List.append_assoc]; rfl
      · rcases List.mem_append.mp hk with hk | hk
        · exact ha x (List.mem_cons_of_mem _ hx) kv hk
        · rw [List.mem_singleton.mp hk]
          intro q
          exact h1 ((Sum.inr.inj q) ▸ hx)
  exact main ns [] hn fun _ _ _ h => by cases h
theorem pairs_map {α : Type} (l : List α) (k : α → Str) (f : α → D) : pairsOf (l.map fun x => .tup [.str (k x), f x]) = some (l.map fun x => (Sum.inr (k x), f x)) := by
  induction l with
  | nil => rfl
  | cons x l ih =>
    rw [List.map_cons]
    unfold pairsOf
    rw [ih]
    rfl
end BB
namespace BB
open PySem PySem.Spec PyProof.Rows L2
abbrev kindD (b : Nat) (ls : List Line) : D := .tup [.int (b : Nat), .lst (ls.map lineL)]
/-- the figures of a number, the greatest one ahead -/
def dgs (b n : Nat) : Nat → List Nat
  | 0 => []
  | t + 1 => (n / b ^ t % b) :: dgs b n t
theorem dgs_len (b n : Nat) : ∀ t, (dgs b n t).length = t
  | 0 => rfl
  | t + 1 => by unfold dgs; rw [List.length_cons, dgs_len b n t]
theorem cdiv10 {i : Int} {b : Nat} (h1 : 1 ≤ b) (h3 : b ≤ 10) : CDivA i (b : Int) := by
  refine ⟨by omega, ?_⟩
  rw [Int.natAbs_natCast, Nat.log2_lt (by omega)]
  exact Nat.lt_of_le_of_lt h3 (Nat.lt_of_lt_of_le (by decide : 10 < 2 ^ 4) (Nat.pow_le_pow_right (by decide) (by decide)))
end BB
namespace BB
open PySem PySem.Spec PyProof.Rows L2
theorem cut64 {j : Nat} (h : j ≤ 2) : cut (sixS.map D.str) none (some (4 + (j : Int))) = (sixS.take (j + 4)).map D.str := by
  obtain rfl | rfl | rfl : j = 0 ∨ j = 1 ∨ j = 2 := by omega
  all_goals rfl
end BB
namespace BB
open PySem PySem.Spec PyProof.Rows L2
theorem lines_map {α : Type} {ls : List Line} (hn : (nmsOf ls).Nodup) (f : Str → Line → α) : (ls.map fun l => f l.1 l) = (nmsOf ls).map fun x => f x (findL ls x) := by
  unfold nmsOf
  rw [List.map_map]
  refine List.map_congr_left fun l hl => ?_
  show f l.1 l = f l.1 (findL ls l.1)
  rw [find_of hn hl]
theorem lin_take {ns : List Str} {f g : Str → Int} {i : Nat} {x : Str} (h : ns[i]? = some x) : lin (ns.take (i + 1)) f g = lin (ns.take i) f g + f x * g x := by
  unfold lin
  rw [take_step h, List.map_append, List.sum_append]
  simp
/-- what a form gives -/
def formV (g : Str → Int) (f : Form) : Int := (f.map fun k => k.1 * g k.2).sum
theorem formV_take {g : Str → Int} {f : Form} {j : Nat} {k : Int × Str} (h : f[j]? = some k) : formV g (f.take (j + 1)) = formV g (f.take j) + k.1 * g k.2 := by
  unfold formV
  rw [take_step h, List.map_append, List.sum_append]
  simp
theorem valN_form (b : Nat) (ls : List Line) (r c t : Nat) (x : Str) : valN b ls r c (t + 1) x = formV (valN b ls r c t) (formAt (findL ls x).2.2 ((r / b ^ t % b : Nat) : Int) ((c / b ^ t % b : Nat) : Int)) := rfl
theorem lin_zero (ns : List Str) (g : Str → Int) : lin ns (fun _ => 0) g = 0 := by
  unfold lin
  induction ns with
  | nil => rfl
  | cons n ns ih => rw [List.map_cons, List.sum_cons, ih]; simp
theorem setF_bd {f : Str → Int} {y : Str} {v : Int} {m k : Nat} (h : ∀ x, (f x).natAbs ≤ m) (hv : v.natAbs ≤ k) : ∀ x, (setF f y (f y + v) x).natAbs ≤ m + k := fun x => by
  unfold setF
  have h1 := h x
  have h2 := h y
  split <;> omega
def farB (i : Nat) : Nat := 9 * 216 ^ i
theorem farB_step (i : Nat) : 24 * (9 * farB i) = farB (i + 1) := by unfold farB; rw [Nat.pow_succ]; omega
theorem farB_lt (i : Nat) : farB i < 2 ^ (8 * i + 4) := by
  unfold farB
  have h : 216 ^ i ≤ (2 ^ 8) ^ i := Nat.pow_le_pow_left (by decide) i
  rw [← Nat.pow_mul] at h
  rw [Nat.pow_add]
  have : 0 < 2 ^ (8 * i) := Nat.pow_pos (by decide)
  omega
theorem ent_lin {b : Nat} {ls : List Line} {sh : List Int} (hb : BookOk b ls) (h1 : 1 ≤ b) (hn : (nmsOf ls).Nodup) (hl : sh.length = ls.length) (t r c : Nat) :
    entL (sysOf b ls sh) b t r c = lin (nmsOf ls) (shF (nmsOf ls) sh) (valN b ls r c t) := by
  unfold entL
  rw [col_val hb h1 hn, lin_dot, shF_map hn (by rw [hl, nms_len])]
  rfl
/-- a dict of the lines' numbers, by places -/
theorem zip_dic {ls : List Line} {sh : List Int} (hn : (nmsOf ls).Nodup) (hl : sh.length = ls.length) :
    ((List.zip sh ls).map fun p => ((Sum.inr p.2.1 : Key), D.int p.1)) = dicF (nmsOf ls) (shF (nmsOf ls) sh) := by
  have hm : (nmsOf ls).map (shF (nmsOf ls) sh) = sh := shF_map hn (by rw [hl, nms_len])
  unfold dicF
  apply List.ext_getElem?
  intro i
  rw [List.getElem?_map, List.getElem?_map]
  by_cases hi : i < ls.length
  · have e1 : ls[i]? = some ls[i] := List.getElem?_eq_getElem hi
    have e2 := nms_get e1
    have e3 : sh[i]? = some (shF (nmsOf ls) sh ls[i].1) := by
      conv => lhs; rw [← hm]
      rw [List.getElem?_map, e2]
      rfl
    have e4 : (List.zip sh ls)[i]? = some (shF (nmsOf ls) sh ls[i].1, ls[i]) := List.getElem?_zip_eq_some.mpr ⟨e3, e1⟩
    rw [e2, e4]
    rfl
  · rw [List.getElem?_eq_none (by rw [List.length_zip]; omega), List.getElem?_eq_none (by rw [nms_len]; omega)]
    rfl
theorem zipD_map {α β : Type} (f : α → D) (g : β → D) : ∀ (xs : List α) (ys : List β), zipD (xs.map f) (ys.map g) = (List.zip xs ys).map fun p => .tup [f p.1, g p.2]
  | [], ys => by simp [zipD]
  | x :: xs, [] => by simp [zipD]
  | x :: xs, y :: ys => by
    rw [List.map_cons, List.map_cons, List.zip_cons_cons, List.map_cons]
    show D.tup [f x, g y] :: zipD (xs.map f) (ys.map g) = _
    rw [zipD_map f g xs ys]
theorem zip_get {α β : Type} {xs : List α} {ys : List β} {i : Nat} {p : α × β} (h : (List.zip xs ys)[i]? = some p) : xs[i]? = some p.1 ∧ ys[i]? = some p.2 := List.getElem?_zip_eq_some.mp (by simpa using h)
end BB
namespace BB
open PySem PySem.Spec PyProof.Rows L2
theorem dgs_get {b n : Nat} : ∀ {t i : Nat}, i < t → (dgs b n t)[i]? = some (n / b ^ (t - 1 - i) % b)
  | 0, _, h => by omega
  | t + 1, 0, _ => by unfold dgs; simp
  | t + 1, i + 1, h => by
    unfold dgs
    rw [List.getElem?_cons_succ, dgs_get (by omega)]
    rw [show t + 1 - 1 - (i + 1) = t - 1 - i by omega]
theorem formV_nil (g : Str → Int) : formV g [] = 0 := rfl
theorem keys_map (ns : List Str) (f : Str → D) : ((ns.map fun x => ((Sum.inr x : Key), f x)).map fun kv => keyD kv.1) = ns.map D.str := by
  rw [List.map_map]
  rfl
theorem keys_dicF (ns : List Str) (f : Str → Int) : ((dicF ns f).map fun kv => keyD kv.1) = ns.map D.str := keys_map ns fun x => .int (f x)
theorem mul9 {a : Int} {k : Int} {m : Nat} (h : a.natAbs ≤ m) (hk : k.natAbs ≤ 9) : (a * k).natAbs ≤ 9 * m := by
  rw [Int.natAbs_mul, Nat.mul_comm]
  exact Nat.mul_le_mul hk h
theorem atI_mem {α : Type} {xs : List α} {i : Int} {y : α} (e : atI xs i = some y) : y ∈ xs := by
  unfold atI at e
  cases q : ixN xs.length i with
  | none => rw [q] at e; cases e
  | some j =>
    rw [q] at e
    exact List.mem_of_getElem? e
/-- books of well known lines -/
def chkK (ls : List Line) : Bool := okB 2 ls && decide (1 ≤ ls.length) && decide (ls.length ≤ 6) && ls.all fun x => decide (x.2.1.natAbs ≤ 99) && x.2.2.all fun r => r.all fun f => decide (f.length ≤ 4) && f.all fun k => decide (k.1.natAbs ≤ 9)
theorem kind_chk {ls : List Line} (h : chkK ls = true) : KindOk 2 ls := by
  unfold chkK at h
  simp only [Bool.and_eq_true] at h
  exact kind_known (bookIn_of h.1.1.1) (of_decide_eq_true h.1.1.2) (of_decide_eq_true h.1.2) h.2
theorem known_bits : KindOk 2 bitsLs := kind_chk (by decide +kernel)
theorem known_hsm : KindOk 2 [kH, kS, kM] := kind_chk (by decide +kernel)
theorem in_known {ls : List Line} (h : (ls.all fun l => decide (l ∈ knownLs)) = true) : ∀ l, l ∈ ls → l ∈ knownLs := fun l hl => of_decide_eq_true (List.all_eq_true.mp h l hl)
/-- an entry's size -/
theorem KindOk.ent {b : Nat} {ls : List Line} {sh : List Int} (h : KindOk b ls) (hl : sh.length = ls.length) (hs : ∀ x, x ∈ sh → x.natAbs ≤ 99) {t r c : Nat} (ht : t ≤ 101) : (entL (sysOf b ls sh) b t r c).natAbs < 2 ^ 1900 := by
  have hb7 : Bd 7 sh := fun x hx => by have := hs x hx; omega
  have ht7 := h.tab hl hb7 (Nat.le_refl 7)
  have hb := h.bi.two
  have h1 := (ht7.sys.col (r := r) (c := c) ht7.st (sysOf_mats b ls sh) (by omega) t).2
  have h2 := bd_dot hb7 h1 (by rw [hl]; have := h.six; omega)
  have h3 : 2 ^ (7 + (7 + t * (7 + 11)) + 10) < 2 ^ 1900 := Nat.pow_lt_pow_right (by decide) (by omega)
  unfold entL
  exact Nat.lt_of_le_of_lt h2 h3
theorem shw_two {x y : Int} (hx : x.natAbs < 2 ^ 1900) (hy : y.natAbs < 2 ^ 1900) : ∃ k n, k ≤ 60 ∧ n ≤ sizeLine ∧ Shw k n (.lst [.int x, .int y]) := by
  refine ⟨_, _, ?_, ?_, .lst (k := 0) (n := 1908) fun z hz => ?_⟩
  · decide
  · rw [sizeLine_eq]; simp
  · simp only [List.mem_cons, List.not_mem_nil, or_false] at hz
    rcases hz with rfl | rfl
    · exact .int hx (Nat.le_refl _)
    · exact .int hy (Nat.le_refl _)
end BB

namespace BZ
open PySem
open PySem.Sem (wp)
abbrev IsZipO (h : Heap) (z TI TO : Addr) (f0 : Value) (b : Bool) : Prop :=
  h.get? z = some { cls := .type "zip", dict := none, data := .fields #[f0, .bool b, .bool false, .ref TI, .ref TO], slots := #[] }
section
variable {prog : Program} {w : World} {A : Around} {E : Value → Shared → Prop} {s : Shared}
theorem next_out {z TI TO i1 i2 l1 l2 T : Addr} {oT : Obj} {f : Bool} {k1 k2 : Nat} {xs ys : Array Value} {x y : Value} {Q : Value → Shared → Prop} (D : ZipApart z TI TO i1 i2 l1 l2)
    (hz : IsZipO s.heap z TI TO (rawInt T) f) (hT : s.heap.get? T = some oT) (hTI : IsPair s.heap TI (.ref i1) (.ref i2))
    (h1 : s.heap.IsListIter i1 l1 k1) (h2 : s.heap.IsListIter i2 l2 k2) (hl1 : s.heap.IsList l1 xs) (hl2 : s.heap.IsList l2 ys) (hx : xs[k1]? = some x) (hy : ys[k2]? = some y)
    (hQ : ∀ h', IsZipO h' z TI TO (rawInt T) true → h'.IsListIter i1 l1 (k1 + 1) → h'.IsListIter i2 l2 (k2 + 1) → IsPair h' s.heap.objs.size x y → h'.objs.size = s.heap.objs.size + 1 →
      (∀ c o, c ≠ z → c ≠ i1 → c ≠ i2 → s.heap.get? c = some o → h'.get? c = some o) → Q (.ref s.heap.objs.size) { s with heap := h' }) :
    wpAny (model prog w) A (Builtin.«zip.__next__» ⟨[.ref z], []⟩) (fun fin s' => ∃ v, fin = .done (.ret v) ∧ Q v s') E s := by
  show wpAny _ _ (field (.ref z) 2 >>= _) _ _ _
  refine wpAny_bind (wpAny_field hz rfl (x := .bool false) rfl ?_)
  show wpAny _ _ (field (.ref z) 3 >>= _) _ _ _
  refine wpAny_bind (wpAny_field hz rfl (x := .ref TI) rfl ?_)
  refine wpAny_bind (wpAny_seqItems hTI rfl ?_)
  show wpAny _ _ (Builtin.SmallTypes.ownedTupleIsFree (.ref z) >>= _) _ _ _
  refine wpAny_bind ?_
  unfold Builtin.SmallTypes.ownedTupleIsFree
  refine wpAny_bind (wpAny_field hz rfl (x := rawInt T) rfl ?_)
  show wpAny _ _ (loadIfAlive ((T : Int).toNat) >>= _) _ _ _
  rw [Int.toNat_natCast]
  refine wpAny_bind (PySem.W.kdx_alive hT ?_)
  simp only [Option.isNone_some, Bool.false_eq_true, if_false]
  refine wpAny_bind (wpAny_field hz rfl (x := .bool f) rfl ?_)
  refine wpAny_mono (Q := fun a s' => a = false ∧ ∃ h₁ : Heap, s' = { s with heap := h₁ } ∧ IsZipO h₁ z TI TO (rawInt T) true ∧ Heap.SameBut z s.heap h₁) (E := E) ?_ ?_ fun _ _ x => x
  · cases f with
    | true =>
      rw [if_neg (show ¬ ((Value.bool true != Value.bool true) = true) from Bool.false_ne_true)]
      exact wpAny_pure ⟨rfl, s.heap, rfl, hz, Heap.SameBut.refl _ _⟩
    | false =>
      rw [if_pos (show (Value.bool false != Value.bool true) = true from rfl)]
      exact wpAny_bind (wpAny_setField_rec hz (by simp) fun h₃ he₃ hs₃ => wpAny_pure ⟨rfl, h₃, rfl, he₃, hs₃⟩)
  rintro a s' ⟨rfl, h₁, rfl, hz₁, hs₁⟩
  simp only [Bool.false_eq_true, if_false, ← Array.forIn_toList, List.forIn_cons, List.forIn_nil]
  refine wpAny_bind (wpAny_bind (wpAny_bind (wpAny_holding ?_)))
  show wpAny _ _ (Builtin.SmallTypes.nextOf (.ref i1) >>= _) _ _ _
  refine wpAny_bind (wpAny_nextOf_list_item (h1.extBut hs₁.extBut D.i1z) (hl1.extBut hs₁.extBut D.l1z) hx fun h₂ h1₂ hs₂ => wpAny_pure ?_)
  refine wpAny_pure ?_
  refine wpAny_bind (wpAny_bind (wpAny_holding ?_))
  show wpAny _ _ (Builtin.SmallTypes.nextOf (.ref i2) >>= _) _ _ _
  refine wpAny_bind (wpAny_nextOf_list_item ((h2.extBut hs₁.extBut D.i2z).extBut hs₂.extBut D.i12.symm)
    ((hl2.extBut hs₁.extBut D.l2z).extBut hs₂.extBut D.l2i1) hy fun h₃ h2₃ hs₃ => wpAny_pure ?_)
  refine wpAny_pure (wpAny_pure ?_)
  refine wpAny_bind (wpAny_newTuple (hsz := by show (2 : Nat) ≤ sizeLine; rw [sizeLine_eq]; decide) ?_)
  have hsz : h₃.objs.size = s.heap.objs.size := by rw [hs₃.1, hs₂.1, hs₁.1]
  have up : ∀ c o, c ≠ z → c ≠ i1 → c ≠ i2 → s.heap.get? c = some o → h₃.get? c = some o := fun c o c1 c3 c4 e => hs₃.extBut _ _ c4 (hs₂.extBut _ _ c3 (hs₁.extBut _ _ c1 e))
  have hz₃ := hs₃.extBut _ _ D.i2z.symm (hs₂.extBut _ _ D.i1z.symm hz₁)
  refine wpAny_pure ⟨_, rfl, ?_⟩
  dsimp only
  rw [hsz]
  exact hQ _ (Heap.get?_push_of_some _ hz₃) (by
    obtain ⟨o, e, r⟩ := h1₂.extBut hs₃.extBut D.i12
    exact ⟨o, Heap.get?_push_of_some _ e, r⟩) (by
    obtain ⟨o, e, r⟩ := h2₃
    exact ⟨o, Heap.get?_push_of_some _ e, r⟩) (by rw [← hsz]; exact Heap.get?_push_size _ rfl) (by rw [Heap.size_push, hsz]) fun c o c1 c3 c4 e => Heap.get?_push_of_some _ (up c o c1 c3 c4 e)
theorem next_out_end {z TI TO i1 i2 l1 l2 T : Addr} {oT : Obj} {f : Bool} {k1 k2 : Nat} {xs ys : Array Value} {Q : Fin → Shared → Prop} (hh : A.handled = none) (D : ZipApart z TI TO i1 i2 l1 l2)
    (hz : IsZipO s.heap z TI TO (rawInt T) f) (hT : s.heap.get? T = some oT) (hTI : IsPair s.heap TI (.ref i1) (.ref i2))
    (h1 : s.heap.IsListIter i1 l1 k1) (h2 : s.heap.IsListIter i2 l2 k2) (hl1 : s.heap.IsList l1 xs) (hl2 : s.heap.IsList l2 ys) (hend : xs[k1]? = none ∨ ys[k2]? = none)
    (hE : ∀ h' e, (∀ c o, c ≠ z → c ≠ i1 → c ≠ i2 → s.heap.get? c = some o → h'.get? c = some o) → (∃ o, h'.get? e = some o ∧ o.cls = .type "StopIteration") → E (.ref e) { s with heap := h' }) :
    wpAny (model prog w) A (Builtin.«zip.__next__» ⟨[.ref z], []⟩) Q E s := by
  show wpAny _ _ (field (.ref z) 2 >>= _) _ _ _
  refine wpAny_bind (wpAny_field hz rfl (x := .bool false) rfl ?_)
  show wpAny _ _ (field (.ref z) 3 >>= _) _ _ _
  refine wpAny_bind (wpAny_field hz rfl (x := .ref TI) rfl ?_)
  refine wpAny_bind (wpAny_seqItems hTI rfl ?_)
  show wpAny _ _ (Builtin.SmallTypes.ownedTupleIsFree (.ref z) >>= _) _ _ _
  refine wpAny_bind ?_
  unfold Builtin.SmallTypes.ownedTupleIsFree
  refine wpAny_bind (wpAny_field hz rfl (x := rawInt T) rfl ?_)
  show wpAny _ _ (loadIfAlive ((T : Int).toNat) >>= _) _ _ _
  rw [Int.toNat_natCast]
  refine wpAny_bind (PySem.W.kdx_alive hT ?_)
  simp only [Option.isNone_some, Bool.false_eq_true, if_false]
  refine wpAny_bind (wpAny_field hz rfl (x := .bool f) rfl ?_)
  refine wpAny_mono (Q := fun a s' => a = false ∧ ∃ h₁ : Heap, s' = { s with heap := h₁ } ∧ IsZipO h₁ z TI TO (rawInt T) true ∧ Heap.SameBut z s.heap h₁) (E := E) ?_ ?_ fun _ _ x => x
  · cases f with
    | true =>
      rw [if_neg (show ¬ ((Value.bool true != Value.bool true) = true) from Bool.false_ne_true)]
      exact wpAny_pure ⟨rfl, s.heap, rfl, hz, Heap.SameBut.refl _ _⟩
    | false =>
      rw [if_pos (show (Value.bool false != Value.bool true) = true from rfl)]
      exact wpAny_bind (wpAny_setField_rec hz (by simp) fun h₃ he₃ hs₃ => wpAny_pure ⟨rfl, h₃, rfl, he₃, hs₃⟩)
  rintro a s' ⟨rfl, h₁, rfl, hz₁, hs₁⟩
  simp only [Bool.false_eq_true, if_false, ← Array.forIn_toList, List.forIn_cons, List.forIn_nil]
  refine wpAny_bind (wpAny_bind (wpAny_bind (wpAny_holding ?_)))
  show wpAny _ _ (Builtin.SmallTypes.nextOf (.ref i1) >>= _) _ _ _
  cases hx : xs[k1]? with
  | none =>
    refine wpAny_bind (wpAny_nextOf_list_end hh (h1.extBut hs₁.extBut D.i1z) (hl1.extBut hs₁.extBut D.l1z) hx fun h₂ e hs₂ he => ?_)
    exact hE h₂ e (fun c o c1 c3 _ x => hs₂ _ _ c3 (hs₁.extBut _ _ c1 x)) he
  | some x =>
    have hy : ys[k2]? = none := by rcases hend with h | h; rw [hx] at h; cases h; exact h
    refine wpAny_bind (wpAny_nextOf_list_item (h1.extBut hs₁.extBut D.i1z) (hl1.extBut hs₁.extBut D.l1z) hx fun h₂ h1₂ hs₂ => wpAny_pure ?_)
    refine wpAny_pure ?_
    refine wpAny_bind (wpAny_bind (wpAny_holding ?_))
    show wpAny _ _ (Builtin.SmallTypes.nextOf (.ref i2) >>= _) _ _ _
    refine wpAny_bind (wpAny_nextOf_list_end hh ((h2.extBut hs₁.extBut D.i2z).extBut hs₂.extBut D.i12.symm)
      ((hl2.extBut hs₁.extBut D.l2z).extBut hs₂.extBut D.l2i1) hy fun h₃ e hs₃ he => ?_)
    exact hE h₃ e (fun c o c1 c3 c4 x => hs₃ _ _ c4 (hs₂.extBut _ _ c3 (hs₁.extBut _ _ c1 x))) he
end

theorem pyNext_out {z TI TO i1 i2 l1 l2 T : Addr} {prog : Program} {w : World} {A : Around} {E : Value → Shared → Prop} {s : Shared} {oT : Obj} {f : Bool} {k1 k2 : Nat} {xs ys : Array Value} {x y : Value} {Q : Option Value → Shared → Prop} (D : ZipApart z TI TO i1 i2 l1 l2)
    (hz : IsZipO s.heap z TI TO (rawInt T) f) (hT : s.heap.get? T = some oT) (hTI : IsPair s.heap TI (.ref i1) (.ref i2))
    (h1 : s.heap.IsListIter i1 l1 k1) (h2 : s.heap.IsListIter i2 l2 k2) (hl1 : s.heap.IsList l1 xs) (hl2 : s.heap.IsList l2 ys) (hx : xs[k1]? = some x) (hy : ys[k2]? = some y)
    (hQ : ∀ h', IsZipO h' z TI TO (rawInt T) true → h'.IsListIter i1 l1 (k1 + 1) → h'.IsListIter i2 l2 (k2 + 1) → IsPair h' s.heap.objs.size x y → h'.objs.size = s.heap.objs.size + 1 →
      (∀ c o, c ≠ z → c ≠ i1 → c ≠ i2 → s.heap.get? c = some o → h'.get? c = some o) → Q (some (.ref s.heap.objs.size)) { s with heap := h' }) :
    wpAny (model prog w) A (pyNext (.ref z)) Q E s := by
  have hTy : s.TypeIs (.ref z) "zip" := ⟨_, hz, rfl⟩
  unfold pyNext
  exact wpAny_bind (wpAny_attempt (wpAny_callSpecial?_slot (name := Str.ofString "__next__") hTy PySem.F.slot_zip_next
    (wpAny_call_entry PySem.F.slot_zip_next hTy PySem.F.entry_zip_next
      (next_out D hz hT hTI h1 h2 hl1 hl2 hx hy fun h' a1 a3 a4 a5 a6 a7 => wpAny_pure (hQ h' a1 a3 a4 a5 a6 a7)) (PySem.F.args_zip_next_1 _))))
theorem pyNext_out_end {z TI TO i1 i2 l1 l2 T : Addr} {prog : Program} {w : World} {A : Around} {E : Value → Shared → Prop} {s : Shared} {oT : Obj} {f : Bool} {k1 k2 : Nat} {xs ys : Array Value} {Q : Option Value → Shared → Prop} (hh : A.handled = none) (D : ZipApart z TI TO i1 i2 l1 l2)
    (hz : IsZipO s.heap z TI TO (rawInt T) f) (hT : s.heap.get? T = some oT) (hTI : IsPair s.heap TI (.ref i1) (.ref i2))
    (h1 : s.heap.IsListIter i1 l1 k1) (h2 : s.heap.IsListIter i2 l2 k2) (hl1 : s.heap.IsList l1 xs) (hl2 : s.heap.IsList l2 ys) (hend : xs[k1]? = none ∨ ys[k2]? = none)
    (hQ : ∀ h', (∀ c o, c ≠ z → c ≠ i1 → c ≠ i2 → s.heap.get? c = some o → h'.get? c = some o) → Q none { s with heap := h' }) :
    wpAny (model prog w) A (pyNext (.ref z)) Q E s := by
  have hTy : s.TypeIs (.ref z) "zip" := ⟨_, hz, rfl⟩
  unfold pyNext
  refine wpAny_bind (wpAny_attempt (wpAny_callSpecial?_slot (name := Str.ofString "__next__") hTy PySem.F.slot_zip_next
    (wpAny_call_entry PySem.F.slot_zip_next hTy PySem.F.entry_zip_next (next_out_end hh D hz hT hTI h1 h2 hl1 hl2 hend fun h' e hk he => ?_) (PySem.F.args_zip_next_1 _))))
  obtain ⟨o, ho, hc⟩ := he
  refine wpAny_bind (wpAny_isInstance (T := "StopIteration") (b := true) ⟨o, ho, hc⟩ isSubtype_stop ?_)
  exact wpAny_pure (hQ _ hk)
/-- a zip that a list is made of: i pairs are told -/
structure ZSt (h : Heap) (z TI TO i1 i2 l1 l2 S : Addr) (i : Nat) (xs ys : Array Value) : Prop where
  ti : IsPair h TI (.ref i1) (.ref i2)
  to : ∃ a b, IsPair h TO a b
  h1 : h.IsListIter i1 l1 i
  h2 : h.IsListIter i2 l2 i
  hl1 : h.IsList l1 xs
  hl2 : h.IsList l2 ys
  zo : IsZip h z TI TO .none ∨ ∃ (T : Addr) (oT : Obj) (f : Bool), IsZipO h z TI TO (rawInt T) f ∧ h.get? T = some oT ∧ T ≠ z ∧ T ≠ i1 ∧ T ≠ i2 ∧ T ≠ S
theorem ZSt.keep {h h' : Heap} {z TI TO i1 i2 l1 l2 S : Addr} {i : Nat} {xs ys : Array Value} (q : ZSt h z TI TO i1 i2 l1 l2 S i xs ys) (hk : ∀ b o, b ≠ S → h.get? b = some o → h'.get? b = some o)
    (n : ∀ b, b ∈ [z, TI, TO, i1, i2, l1, l2] → b ≠ S) : ZSt h' z TI TO i1 i2 l1 l2 S i xs ys := by
  obtain ⟨q1, ⟨a, b, q2⟩, q3, q4, q5, q6, q7⟩ := q
  refine ⟨hk _ _ (n _ (by simp)) q1, ⟨a, b, hk _ _ (n _ (by simp)) q2⟩, q3.at fun o e => hk _ o (n _ (by simp)) e, q4.at fun o e => hk _ o (n _ (by simp)) e, q5.at fun o e => hk _ o (n _ (by simp)) e, q6.at fun o e => hk _ o (n _ (by simp)) e, ?_⟩
  rcases q7 with q | ⟨T, oT, f, g1, g2, g3, g4, g5, g6⟩
  · exact .inl (hk _ _ (n _ (by simp)) q)
  · exact .inr ⟨T, oT, f, hk _ _ (n _ (by simp)) g1, hk _ _ g6 g2, g3, g4, g5, g6⟩
section
variable {prog : Program} {w : World} {A : Around} {E : Value → Shared → Prop} {s : Shared}
theorem zst_item {z TI TO i1 i2 l1 l2 S : Addr} {i : Nat} {xs ys : Array Value} {x y : Value} {Q : Option Value → Shared → Prop} (D : ZipApart z TI TO i1 i2 l1 l2) (st : ZSt s.heap z TI TO i1 i2 l1 l2 S i xs ys) (hS : S < s.heap.objs.size)
    (hx : xs[i]? = some x) (hy : ys[i]? = some y)
    (hQ : ∀ h', ZSt h' z TI TO i1 i2 l1 l2 S (i + 1) xs ys → IsPair h' s.heap.objs.size x y → h'.objs.size = s.heap.objs.size + 1 →
      (∀ c o, c ≠ z → c ≠ TO → c ≠ i1 → c ≠ i2 → s.heap.get? c = some o → h'.get? c = some o) → Q (some (.ref s.heap.objs.size)) { s with heap := h' }) :
    wpAny (model prog w) A (pyNext (.ref z)) Q E s := by
  obtain ⟨hTI, ⟨a, b, hTO⟩, h1, h2, hl1, hl2, hz⟩ := st
  have lt : ∀ {c o}, s.heap.get? c = some o → s.heap.objs.size ≠ c := fun e => Nat.ne_of_gt (Heap.lt_size e)
  have l1 : s.heap.objs.size ≠ i1 := by obtain ⟨_, e, _⟩ := h1; exact lt e
  have l2 : s.heap.objs.size ≠ i2 := by obtain ⟨_, e, _⟩ := h2; exact lt e
  rcases hz with hz | ⟨T, oT, f, hz, hT, t1, t2, t3, t4⟩
  · refine wpAny_pyNext_zip_item D hz hTI hTO h1 h2 hl1 hl2 hx hy fun h' a1 a2 a3 a4 a5 a6 hk => ?_
    exact hQ h' ⟨hk _ _ D.TIz D.TITO D.TIi1 D.TIi2 hTI, ⟨_, _, a2⟩, a3, a4, hl1.at fun o e => hk _ o D.l1z D.l1TO D.l1i1 D.l1i2 e, hl2.at fun o e => hk _ o D.l2z D.l2TO D.l2i1 D.l2i2 e,
      .inr ⟨_, _, false, a1, a5, lt hz, l1, l2, Nat.ne_of_gt hS⟩⟩ a5 a6 hk
  · refine pyNext_out D hz hT hTI h1 h2 hl1 hl2 hx hy fun h' a1 a3 a4 a5 a6 hk => ?_
    exact hQ h' ⟨hk _ _ D.TIz D.TIi1 D.TIi2 hTI, ⟨a, b, hk _ _ D.TOz D.TOi1 D.TOi2 hTO⟩, a3, a4, hl1.at fun o e => hk _ o D.l1z D.l1i1 D.l1i2 e, hl2.at fun o e => hk _ o D.l2z D.l2i1 D.l2i2 e,
      .inr ⟨T, oT, true, a1, hk _ _ t1 t2 t3 hT, t1, t2, t3, t4⟩⟩ a5 a6 fun c o c1 _ c3 c4 => hk c o c1 c3 c4
theorem zst_done {z TI TO i1 i2 l1 l2 S : Addr} {i : Nat} {xs ys : Array Value} {Q : Option Value → Shared → Prop} (hh : A.handled = none) (D : ZipApart z TI TO i1 i2 l1 l2) (st : ZSt s.heap z TI TO i1 i2 l1 l2 S i xs ys)
    (hend : xs[i]? = none ∨ ys[i]? = none)
    (hQ : ∀ h', (∀ c o, c ≠ z → c ≠ TO → c ≠ i1 → c ≠ i2 → s.heap.get? c = some o → h'.get? c = some o) → Q none { s with heap := h' }) :
    wpAny (model prog w) A (pyNext (.ref z)) Q E s := by
  obtain ⟨hTI, ⟨a, b, hTO⟩, h1, h2, hl1, hl2, hz⟩ := st
  rcases hz with hz | ⟨T, oT, f, hz, hT, t1, t2, t3, t4⟩
  · exact wpAny_pyNext_zip_end hh D hz hTI hTO h1 h2 hl1 hl2 hend hQ
  · exact pyNext_out_end hh D hz hT hTI h1 h2 hl1 hl2 hend fun h' hk => hQ h' fun c o c1 _ c3 c4 => hk c o c1 c3 c4
end
structure ZG (xs ys : Array Value) (lo : Addr) (h : Heap) (as : List Addr) : Prop where
  rise : as.Pairwise (· < ·)
  above : ∀ a ∈ as, lo < a
  pairs : ∀ (j : Nat) (a : Addr), as[j]? = some a → ∃ x y, xs[j]? = some x ∧ ys[j]? = some y ∧ h.get? a = some { cls := .type "tuple", data := .seq #[x, y] }
theorem ZG.there {xs ys : Array Value} {lo : Addr} {h : Heap} {as : List Addr} (g : ZG xs ys lo h as) {a : Addr} (ha : a ∈ as) : a < h.objs.size := by
  obtain ⟨j, hj⟩ := List.mem_iff_getElem?.mp ha
  obtain ⟨_, _, _, _, e⟩ := g.pairs j a hj
  exact Heap.lt_size e
section
variable {prog : Program} {w : World} {A : Around} {s : Shared} {R : Result → Shared → Prop} {xs ys : Array Value}
theorem lz_loop {S z TI TO i1 i2 l1 l2 : Addr} (hh : A.handled = none) (D : ZipApart z TI TO i1 i2 l1 l2) (hSn : ∀ b, b ∈ [z, TI, TO, i1, i2] → b < S) (hSl : l1 ≠ S ∧ l2 ≠ S) (hn : min xs.size ys.size ≤ sizeLine) (res : Value) {h₁ : Heap}
    (hR : ∀ h' tk acc c as, (∀ b o, b ≠ S → b ≠ z → b ≠ TO → b ≠ i1 → b ≠ i2 → h₁.get? b = some o → h'.get? b = some o) → h'.get? S = some { cls := .type "list", dict := none, data := .seq acc c, slots := #[] } → as.length = min xs.size ys.size → ZG xs ys S h' as →
      acc.toList = as.map Value.ref → R (.ok (.ret res)) { s with heap := h', toks := tk }) :
    ∀ (k i : Nat) (h : Heap) (tk c : Nat) (acc : Array Value) (as : List Addr), min xs.size ys.size - i = k → i ≤ min xs.size ys.size → ZSt h z TI TO i1 i2 l1 l2 S i xs ys → (∀ b o, b ≠ S → b ≠ z → b ≠ TO → b ≠ i1 → b ≠ i2 → h₁.get? b = some o → h.get? b = some o) →
      h.get? S = some { cls := .type "list", dict := none, data := .seq acc c, slots := #[] } → acc.toList = as.map Value.ref → as.length = i → ZG xs ys S h as →
      codeAny (model prog w) A (.builtin "list.extend.loop" ⟨[.ref S, .ref z, res], []⟩) R { s with heap := h, toks := tk } := by
  have nz : S ≠ z := Nat.ne_of_gt (hSn z (by simp))
  have nTO : S ≠ TO := Nat.ne_of_gt (hSn TO (by simp))
  have n1 : S ≠ i1 := Nat.ne_of_gt (hSn i1 (by simp))
  have n2 : S ≠ i2 := Nat.ne_of_gt (hSn i2 (by simp))
  have nn : ∀ b, b ∈ [z, TI, TO, i1, i2, l1, l2] → b ≠ S := fun b hb => by
    simp at hb
    rcases hb with rfl | rfl | rfl | rfl | rfl | rfl | rfl
    · exact nz.symm
    · exact Nat.ne_of_lt (hSn _ (by simp))
    · exact nTO.symm
    · exact n1.symm
    · exact n2.symm
    · exact hSl.1
    · exact hSl.2
  have nb : ∀ a, S < a → a ≠ z ∧ a ≠ TO ∧ a ≠ i1 ∧ a ≠ i2 := fun a ha => ⟨Nat.ne_of_gt (Nat.lt_trans (hSn z (by simp)) ha), Nat.ne_of_gt (Nat.lt_trans (hSn TO (by simp)) ha), Nat.ne_of_gt (Nat.lt_trans (hSn i1 (by simp)) ha), Nat.ne_of_gt (Nat.lt_trans (hSn i2 (by simp)) ha)⟩
  intro k
  induction k with
  | zero =>
    intro i h tk c acc as hk hi hst hkeep hS hacc hal hG
    refine codeAny_builtin PySem.F.entry_extend_loop ?_
    rw [Around.under_plainId PySem.F.plain_extend_loop _]
    show wpAny _ A.in1 (pyNext (.ref z) >>= _) _ _ _
    have hend : xs[i]? = none ∨ ys[i]? = none := by
      rcases Nat.le_total xs.size ys.size with h | h
      · exact .inl (Array.getElem?_eq_none (by omega))
      · exact .inr (Array.getElem?_eq_none (by omega))
    refine wpAny_bind (zst_done (s := { s with heap := h, toks := tk }) (A := A.in1) hh D hst hend fun h' he => ?_)
    refine wpAny_pure (hR h' tk acc c as (fun b o h0 h1 h2 h3 h4 e => he b o h1 h2 h3 h4 (hkeep b o h0 h1 h2 h3 h4 e)) (he S _ nz nTO n1 n2 hS) (by omega) ⟨hG.rise, hG.above, fun j a hj => ?_⟩ hacc)
    obtain ⟨x, y, e1, e2, e3⟩ := hG.pairs j a hj
    obtain ⟨m1, m2, m3, m4⟩ := nb a (hG.above a (List.mem_of_getElem? hj))
    exact ⟨x, y, e1, e2, he a _ m1 m2 m3 m4 e3⟩
  | succ k ih =>
    intro i h tk c acc as hk hi hst hkeep hS hacc hal hG
    have hlt : i < min xs.size ys.size := by omega
    obtain ⟨x, hx⟩ : ∃ x, xs[i]? = some x := ⟨xs[i], Array.getElem?_eq_getElem (by omega)⟩
    obtain ⟨y, hy⟩ : ∃ y, ys[i]? = some y := ⟨ys[i], Array.getElem?_eq_getElem (by omega)⟩
    have hsz : acc.size = i := by rw [← Array.length_toList, hacc, List.length_map, hal]
    have hSlt : S < h.objs.size := Heap.lt_size hS
    refine codeAny_builtin PySem.F.entry_extend_loop ?_
    rw [Around.under_plainId PySem.F.plain_extend_loop _]
    show wpAny _ A.in1 (pyNext (.ref z) >>= _) _ _ _
    refine wpAny_bind (zst_item (s := { s with heap := h, toks := tk }) (S := S) D hst hSlt hx hy fun h' hst' ht hz hkp => ?_)
    dsimp only at ht hz hkp ⊢
    have hS' := hkp S _ nz nTO n1 n2 hS
    have up : ∀ b o, b ≠ S → h'.get? b = some o → (h'.update S (Obj.mapSeq (·.push (Value.ref h.objs.size)))).get? b = some o := fun b o hb e => (Heap.get?_update_other _ _ (Ne.symm hb)).trans e
    show wpAny _ A.in1 (updateSeq S (·.push (Value.ref h.objs.size)) >>= _) _ _ _
    refine wpAny_bind ?_
    refine wpAny_updateSeq (hz := by rw [hsz]; omega) (_hz' := by show (acc.push (Value.ref h.objs.size)).size ≤ sizeLine + 1; rw [Array.size_push, hsz]; omega) hS' rfl (wpAny_pure ⟨plainId_quiet PySem.F.plain_extend_loop _, ih (i + 1) _ tk _ (acc.push (Value.ref h.objs.size)) (as ++ [h.objs.size]) (by omega) hlt (hst'.keep up nn)
      (fun b o h0 h1 h2 h3 h4 e => up b o h0 (hkp b o h1 h2 h3 h4 (hkeep b o h0 h1 h2 h3 h4 e))) (Heap.get?_update_self _ hS' rfl) (by rw [Array.toList_push, hacc, List.map_append]; rfl) (by rw [List.length_append, hal]; rfl) ⟨?_, ?_, ?_⟩⟩)
    · refine List.pairwise_append.mpr ⟨hG.rise, List.pairwise_singleton _ _, fun a ha b hb => ?_⟩
      rw [List.mem_singleton.mp hb]
      exact hG.there ha
    · intro a ha
      rcases List.mem_append.mp ha with ha | ha
      · exact hG.above a ha
      · rw [List.mem_singleton.mp ha]; exact hSlt
    · intro j b hj
      rcases Nat.lt_trichotomy j as.length with h1 | h1 | h1
      · rw [List.getElem?_append_left h1] at hj
        obtain ⟨x', y', e1, e2, e3⟩ := hG.pairs j b hj
        have hb := hG.above b (List.mem_of_getElem? hj)
        obtain ⟨m1, m2, m3, m4⟩ := nb b hb
        exact ⟨x', y', e1, e2, up b _ (Nat.ne_of_gt hb) (hkp b _ m1 m2 m3 m4 e3)⟩
      · subst h1
        have hb : h.objs.size = b := by simpa using hj
        subst hb
        exact ⟨x, y, by rw [hal]; exact hx, by rw [hal]; exact hy, up _ _ (Nat.ne_of_gt hSlt) ht⟩
      · have hnone : (as ++ [h.objs.size])[j]? = none := List.getElem?_eq_none (by rw [List.length_append, List.length_singleton]; omega)
        rw [hnone] at hj; cases hj
end
theorem zip_no_len : typeLookup (.type "zip") "__len__" = pure none := by rw [typeLookup_type, builtinLookup_eq_fast]; kernel_rfl
theorem zip_no_hint : typeLookup (.type "zip") "__length_hint__" = pure none := by rw [typeLookup_type, builtinLookup_eq_fast]; kernel_rfl
section
variable {prog : Program} {w : World} {A : Around} {E : Value → Shared → Prop} {s : Shared} {xs ys : Array Value} {z TI TO i1 i2 l1 l2 : Addr}
theorem lz_init {R : Result → Shared → Prop} (hh : A.handled = none) (D : ZipApart z TI TO i1 i2 l1 l2) (S : Addr) (hSn : ∀ b, b ∈ [z, TI, TO, i1, i2] → b < S) (hSl : l1 ≠ S ∧ l2 ≠ S) (hn : min xs.size ys.size ≤ sizeLine)
    (hz : IsZip s.heap z TI TO .none) (hTI : IsPair s.heap TI (.ref i1) (.ref i2)) (hTO : IsPair s.heap TO .none .none) (h1 : s.heap.IsListIter i1 l1 0) (h2 : s.heap.IsListIter i2 l2 0) (hl1 : s.heap.IsList l1 xs) (hl2 : s.heap.IsList l2 ys)
    (hS : s.heap.get? S = some { cls := .type "list", data := .seq #[] })
    (hR : ∀ h' tk acc c as, (∀ b o, b ≠ S → b ≠ z → b ≠ TO → b ≠ i1 → b ≠ i2 → s.heap.get? b = some o → h'.get? b = some o) → h'.get? S = some { cls := .type "list", dict := none, data := .seq acc c, slots := #[] } → as.length = min xs.size ys.size → ZG xs ys S h' as →
      acc.toList = as.map Value.ref → R (.ok (.ret .none)) { s with heap := h', toks := tk }) :
    wpAny (model prog w) A.in1 (Builtin.«list.__init__» ⟨[.ref S, .ref z], []⟩)
      (fun fin s' => match fin with | .done f => R (.ok f) s' | .again c' => c'.quiet = true ∧ codeAny (model prog w) A c' R s') (fun e s' => R (.error e) s') s := by
  have nn : ∀ b, b ∈ [z, TI, TO, i1, i2, l1, l2] → b ≠ S := fun b hb => by
    simp at hb
    rcases hb with rfl | rfl | rfl | rfl | rfl | rfl | rfl
    · exact Nat.ne_of_lt (hSn _ (by simp))
    · exact Nat.ne_of_lt (hSn _ (by simp))
    · exact Nat.ne_of_lt (hSn _ (by simp))
    · exact Nat.ne_of_lt (hSn _ (by simp))
    · exact Nat.ne_of_lt (hSn _ (by simp))
    · exact hSl.1
    · exact hSl.2
  have st0 : ZSt s.heap z TI TO i1 i2 l1 l2 S 0 xs ys := ⟨hTI, ⟨_, _, hTO⟩, h1, h2, hl1, hl2, .inl hz⟩
  show wpAny _ _ (do let old ← Builtin.List.listItems (.ref S); Builtin.List.listUpdate (.ref S) (fun _ => #[]); letGo old.toList.reverse; Builtin.List.listExtendWith (.ref S) (.ref z) .none) _ _ s
  refine wpAny_bind ?_
  unfold Builtin.List.listItems
  refine wpAny_bind (wpAny_seqItems hS rfl (wpAny_pure ?_))
  show wpAny _ _ (updateSeq S (fun _ => #[]) >>= fun _ => letGo (#[] : Array Value).toList.reverse >>= fun _ => Builtin.List.listExtendWith (.ref S) (.ref z) .none) _ _ s
  refine wpAny_bind (wpAny_updateSeq hS rfl ?_)
  have hS₂ := Heap.get?_update_self (Obj.mapSeq (fun _ => (#[] : Array Value))) hS rfl
  have oth : ∀ b o, b ≠ S → s.heap.get? b = some o → (s.heap.update S (Obj.mapSeq (fun _ => (#[] : Array Value)))).get? b = some o :=
    fun b o hb e => (Heap.get?_update_other _ _ (Ne.symm hb)).trans e
  refine wpAny_bind (wpAny_letGo ?_)
  have st2 := st0.keep oth nn
  have hz2 : IsZip (s.heap.update S (Obj.mapSeq (fun _ => (#[] : Array Value)))) z TI TO .none := oth _ _ (nn z (by simp)) hz
  unfold Builtin.List.listExtendWith
  have hTy : ({ s with heap := s.heap.update S (Obj.mapSeq (fun _ => (#[] : Array Value))) } : Shared).TypeIs (.ref z) "zip" := ⟨_, hz2, rfl⟩
  refine wpAny_bind (wpAny_typeOf hTy ?_)
  have e1 : Builtin.List.listSameRef (.ref S) (.ref z) = false := by simp [Builtin.List.listSameRef, (nn z (by simp)).symm]
  have e2 : (Value.type "zip" == Value.type "list") = false := by decide
  have e3 : (Value.type "zip" == Value.type "tuple") = false := by decide
  simp only [e1, e2, e3, Bool.or_false, Bool.false_eq_true, if_false]
  refine wpAny_bind (wpAny_pyIter_zip hz2 ?_)
  refine wpAny_bind (wpAny_holding ?_)
  unfold Builtin.List.listLengthHint
  refine wpAny_bind (wpAny_specialOf hTy zip_no_len ?_)
  show wpAny _ A.in1 (specialOf (Value.ref z) (Str.ofString "__length_hint__") >>= _) _ _ _
  refine wpAny_bind (wpAny_specialOf hTy zip_no_hint ?_)
  refine wpAny_pure ?_
  show wpAny _ A.in1 (rule "list.extend.makes-room" >>= fun _ => Builtin.List.listTouch (.ref S) >>= fun _ =>
    again (.builtin "list.extend.loop" ⟨[.ref S, .ref z, .none], []⟩)) _ _ _
  refine wpAny_bind (wpAny_rule ?_)
  refine wpAny_bind ?_
  show wpAny _ A.in1 (updateSeq S (·.push .none) >>= fun _ => updateSeq S (·.pop)) _ _ _
  refine wpAny_bind (wpAny_updateSeq hS₂ rfl ?_)
  have hS₃ := Heap.get?_update_self (Obj.mapSeq (·.push Value.none)) hS₂ rfl
  refine wpAny_updateSeq (hz := by seq_fits) hS₃ rfl ?_
  have hS₄ := Heap.get?_update_self (Obj.mapSeq (·.pop)) hS₃ rfl
  refine wpAny_pure ⟨plainId_quiet PySem.F.plain_extend_loop _, ?_⟩
  have up : ∀ b o, b ≠ S → (s.heap.update S (Obj.mapSeq (fun _ => (#[] : Array Value)))).get? b = some o → (((s.heap.update S (Obj.mapSeq (fun _ => (#[] : Array Value)))).update S (Obj.mapSeq (·.push Value.none))).update S (Obj.mapSeq (·.pop))).get? b = some o :=
    fun b o hb e => (Heap.get?_update_other _ _ (Ne.symm hb)).trans ((Heap.get?_update_other _ _ (Ne.symm hb)).trans e)
  exact lz_loop (s := s) (h₁ := s.heap) hh D hSn hSl hn .none hR (min xs.size ys.size) 0 _ s.toks _ #[] [] (Nat.sub_zero _) (Nat.zero_le _) (st2.keep up nn)
    (fun b o h0 _ _ _ _ e => up b o h0 (oth b o h0 e)) hS₄ rfl rfl ⟨List.Pairwise.nil, (fun _ ha => nomatch ha), (fun j a hj => by simp at hj)⟩
theorem lz_call {Q : Value → Shared → Prop} (hh : A.handled = none) (D : ZipApart z TI TO i1 i2 l1 l2) (hn : min xs.size ys.size ≤ sizeLine)
    (hz : IsZip s.heap z TI TO .none) (hTI : IsPair s.heap TI (.ref i1) (.ref i2)) (hTO : IsPair s.heap TO .none .none) (h1 : s.heap.IsListIter i1 l1 0) (h2 : s.heap.IsListIter i2 l2 0) (hl1 : s.heap.IsList l1 xs) (hl2 : s.heap.IsList l2 ys)
    (hQ : ∀ h' tk acc c as, (∀ b o, b ≠ z → b ≠ TO → b ≠ i1 → b ≠ i2 → s.heap.get? b = some o → h'.get? b = some o) → h'.get? s.heap.objs.size = some { cls := .type "list", dict := none, data := .seq acc c, slots := #[] } → as.length = min xs.size ys.size → ZG xs ys s.heap.objs.size h' as →
      acc.toList = as.map Value.ref → Q (.ref s.heap.objs.size) { s with heap := h', toks := tk }) :
    wpAny (model prog w) A (call (.type "list") [.ref z]) Q E s := by
  refine callType_codes (Q₁ := fun obj s₁ => obj = .ref s.heap.objs.size ∧ s₁ = { s with heap := s.heap.push { cls := .type "list", data := .seq #[] } }) PySem.F.called_list (PySem.F.typeCall_list_1 _) PySem.F.entry_list_init
    (code_list_new _ ⟨rfl, rfl⟩) fun obj s₁ h₁ => ?_
  obtain ⟨rfl, rfl⟩ := h₁
  have hS : (s.heap.push { cls := .type "list", data := .seq #[] }).get? s.heap.objs.size = some { cls := .type "list", data := .seq #[] } := Heap.get?_push_size _ rfl
  have up : ∀ b o, s.heap.get? b = some o → (s.heap.push { cls := .type "list", data := .seq #[] }).get? b = some o := fun b o e => Heap.get?_push_of_some _ e
  have L1 : l1 < s.heap.objs.size := let ⟨_, e, _⟩ := hl1; Heap.lt_size e
  have L2 : l2 < s.heap.objs.size := let ⟨_, e, _⟩ := hl2; Heap.lt_size e
  refine ⟨⟨_, hS, rfl⟩, PySem.F.args_list_init_2 _ _, lz_init (A := A.in1) (TI := TI) (TO := TO) (i1 := i1) (i2 := i2) (l1 := l1) (l2 := l2) hh D _ (fun b hb => ?_) ⟨Nat.ne_of_lt L1, Nat.ne_of_lt L2⟩ hn (up _ _ hz) (up _ _ hTI) (up _ _ hTO) (h1.at fun o e => up _ o e) (h2.at fun o e => up _ o e) (hl1.at fun o e => up _ o e) (hl2.at fun o e => up _ o e) hS fun h' tk acc c as hk hS' hl hG hacc => ?_⟩
  · simp at hb
    rcases hb with rfl | rfl | rfl | rfl | rfl
    · exact Heap.lt_size hz
    · exact Heap.lt_size hTI
    · exact Heap.lt_size hTO
    · obtain ⟨_, e, _⟩ := h1; exact Heap.lt_size e
    · obtain ⟨_, e, _⟩ := h2; exact Heap.lt_size e
  · exact ⟨rfl, hQ h' tk acc c as (fun b o c1 c2 c3 c4 e => hk b o (Nat.ne_of_lt (Heap.lt_size e)) c1 c2 c3 c4 (up b o e)) hS' hl hG hacc⟩
end
end BZ

namespace BZ
open PySem PySem.Spec PyProof.Rows L2
/-- the pairs tracked at their addresses -/
def putV : Hp → List Addr → List (V × V) → Hp
  | H, a :: as, p :: ps => putV (upd H a (.tup [p.1, p.2])) as ps
  | H, _, _ => H
theorem putV_off {b : Addr} : ∀ (as : List Addr) (ps : List (V × V)) (H : Hp), b ∉ as → putV H as ps b = H b
  | [], _, _, _ => rfl
  | _ :: _, [], _, _ => rfl
  | a :: as, p :: ps, H, h => by
    show putV (upd H a (.tup [p.1, p.2])) as ps b = H b
    rw [putV_off as ps _ (fun z => h (List.mem_cons_of_mem _ z)), upd_ne (fun z => h (by rw [z]; exact List.mem_cons_self))]
theorem putV_at : ∀ (as : List Addr) (ps : List (V × V)) (H : Hp), as.length = ps.length → as.Nodup → Paired (fun (t : Addr) (p : V × V) => putV H as ps t = some (.tup [p.1, p.2])) as ps
  | [], [], _, _, _ => .nil
  | [], _ :: _, _, h, _ => by cases h
  | _ :: _, [], _, h, _ => by cases h
  | a :: as, p :: ps, H, h, hn => by
    have hn' := List.nodup_cons.mp hn
    refine .cons ?_ (putV_at as ps (upd H a (.tup [p.1, p.2])) (Nat.succ.inj h) hn'.2)
    show putV (upd H a (.tup [p.1, p.2])) as ps a = some (.tup [p.1, p.2])
    rw [putV_off as ps _ hn'.1, upd_same]
theorem upd_comm {H : Hp} {a b : Addr} {u v : HO} (n : a ≠ b) : upd (upd H a u) b v = upd (upd H b v) a u := by
  funext c
  by_cases h1 : c = a
  · subst h1
    rw [upd_ne n, upd_same, upd_same]
  · by_cases h2 : c = b
    · subst h2
      rw [upd_same, upd_ne h1, upd_same]
    · rw [upd_ne h2, upd_ne h1, upd_ne h1, upd_ne h2]
theorem putV_upd {p : Addr} {o : HO} : ∀ (as : List Addr) (ps : List (V × V)) (H : Hp), p ∉ as → putV (upd H p o) as ps = upd (putV H as ps) p o
  | [], _, _, _ => rfl
  | _ :: _, [], _, _ => rfl
  | a :: as, q :: ps, H, h => by
    show putV (upd (upd H p o) a (.tup [q.1, q.2])) as ps = upd (putV (upd H a (.tup [q.1, q.2])) as ps) p o
    rw [upd_comm (fun z => h (by rw [z]; exact List.mem_cons_self)), putV_upd as ps _ fun z => h (List.mem_cons_of_mem _ z)]
theorem zip_at {α β : Type} : ∀ {xs : List α} {ys : List β} {i : Nat} {x : α} {y : β}, xs[i]? = some x → ys[i]? = some y → (List.zip xs ys)[i]? = some (x, y) := fun h1 h2 => List.getElem?_zip_eq_some.mpr ⟨h1, h2⟩
def tListZip (K : PySem.W.Frag) (ta : TA) : TE := fun σ H Q => ta σ H fun vs H1 => ∃ (a b : Addr) (xs ys : List V), vs = [.ref a, .ref b] ∧ SqL K H1 a xs ∧ SqL K H1 b ys ∧
  ∀ (p : Addr) (ts : List Addr), H1 p = none → (∀ t, t ∈ ts → H1 t = none) → ts.Nodup → p ∉ ts → ts.length = (List.zip xs ys).length → Q (.ref p) (upd (putV H1 ts (List.zip xs ys)) p (.lst (ts.map V.ref)))
section
variable {X : Cx}
theorem zip_laid {pins : List (Addr × Obj)} {σ : L2.St} {H : Hp} {s : Shared} {h' : Heap} {tk c : Nat} {xs ys : List V} {us ws : List Value} {acc : Array Value} {as : List Addr} {S : Addr} (I : Inv X pins σ H s) (hz : (List.zip xs ys).length ≤ sizeLine) (kx : Vals xs us) (ky : Vals ys ws)
    (hk : ∀ b o, s.heap.get? b = some o → h'.get? b = some o) (hl : s.heap.objs.size ≤ S) (hS : h'.get? S = some { cls := .type "list", dict := none, data := .seq acc c, slots := #[] }) (hlen : as.length = (List.zip xs ys).length) (hG : ZG us.toArray ws.toArray S h' as) (hacc : acc.toList = as.map Value.ref) :
    H S = none ∧ (∀ t, t ∈ as → H t = none) ∧ as.Nodup ∧ S ∉ as ∧ Inv X pins σ (upd (putV H as (List.zip xs ys)) S (.lst (as.map V.ref))) { s with heap := h', toks := tk } := by
  have hSn : S ∉ as := fun z => Nat.lt_irrefl _ (hG.above _ z)
  have nd : as.Nodup := List.Pairwise.imp (fun {a b} (h : a < b) => Nat.ne_of_lt h) hG.rise
  have new : ∀ t ∈ as, H t = none := fun t ht => I.hok.fresh (Nat.le_trans hl (Nat.le_of_lt (hG.above t ht)))
  have newS : H S = none := I.hok.fresh hl
  have atP := putV_at as (List.zip xs ys) (upd H S (.lst (as.map V.ref))) hlen nd
  rw [putV_upd as _ _ hSn] at atP
  have off : ∀ b, b ∉ as → b ≠ S → upd (putV H as (List.zip xs ys)) S (.lst (as.map V.ref)) b = H b := fun b h1 h2 => by rw [upd_ne h2, putV_off as _ _ h1]
  have low : ∀ b o, s.heap.get? b = some o → b ∉ as ∧ b ≠ S := fun b o e => by
    have q := Heap.lt_size e
    exact ⟨fun z => absurd (hG.above b z) (Nat.not_lt.mpr (Nat.le_of_lt (Nat.lt_of_lt_of_le q hl))), Nat.ne_of_lt (Nat.lt_of_lt_of_le q hl)⟩
  have kp : ∀ b u, H b = some u → upd (putV H as (List.zip xs ys)) S (.lst (as.map V.ref)) b = some u := fun b u e => by
    rw [off b (fun z => by rw [new b z] at e; cases e) (fun z => by rw [z, newS] at e; cases e)]
    exact e
  have eS : upd (putV H as (List.zip xs ys)) S (.lst (as.map V.ref)) S = some (.lst (as.map V.ref)) := upd_same
  refine ⟨newS, new, nd, hSn, ?_⟩
  refine I.call' (ch := []) rfl ⟨fun b o q _ _ _ => hk b o q, fun b o q _ _ _ => ⟨o.slots, hk b o q⟩, fun b o q n _ => ?_, fun b o q _ => ⟨o, hk b o q⟩, fun b xs q => kp b _ q, fun b o u q => kp b _ q, fun b ps q => ⟨#[], by rw [kp b _ q]; simp⟩⟩ (fun b u q => ?_) I.bare fun b z => by simp at z
  · obtain ⟨z1, z2⟩ := low b o q
    rw [off b z1 z2]
    exact n
  · by_cases hb : b ∈ as
    · obtain ⟨j, pk, e1, e2, e3⟩ := LiI.paired_ix atP hb
      rw [e3] at q
      cases q
      obtain ⟨x, y, f1, f2, f3⟩ := hG.pairs j b e1
      obtain ⟨g1, g2⟩ := List.getElem?_zip_eq_some.mp (show (List.zip xs ys)[j]? = some (pk.1, pk.2) from e2)
      obtain ⟨x', f1', rx⟩ := LiI.paired_get kx g1
      obtain ⟨y', f2', ry⟩ := LiI.paired_get ky g2
      rw [List.getElem?_toArray] at f1 f2
      rw [f1] at f1'
      rw [f2] at f2'
      cases f1'
      cases f2'
      exact ⟨by show 2 ≤ sizeLine; decide, [x, y], .cons rx (.cons ry .nil), ⟨_, f3, rfl, _, rfl⟩⟩
    · by_cases hb2 : b = S
      · rw [hb2] at q ⊢
        rw [eS] at q
        cases q
        refine ⟨by rw [List.length_map, hlen]; exact hz, acc.toList, c, by rw [hacc]; exact LiI.vals_refs as, ?_⟩
        rw [Array.toArray_toList]
        exact hS
      · rw [off b hb hb2] at q
        exact (I.hok b u q).stay (fun d v _ y => hk d v y) (fun d y => kp d _ y) fun d xs y => kp d _ y
theorem pe_listZip {e e2 : Expr} {ta : TA} {p p2 pos pos2 : Pos} (hc : X.calm = true) (hg : Gl X "list") (hm : X.mg "list" = none) (hg2 : Gl X "zip") (hm2 : X.mg "zip" = none) (ha : PA X [e, e2] ta)
    (na : starEach [.Call (.Name "zip" p2) [e, e2] [] pos2] X.env = (false, eval (.Call (.Name "zip" p2) [e, e2] [] pos2) X.env) :: starEach [] X.env := by rfl)
    (hs : starEach [e, e2] X.env = (false, eval e X.env) :: starEach [e2] X.env := by rfl) (hpl : (backTo pos2 (starEach [e2] X.env)).any (·.1) = false := by rfl) :
    PE X (.Call (.Name "list" p) [.Call (.Name "zip" p2) [e, e2] [] pos2] [] pos) (tListZip X.K ta) := by
  refine ⟨fun pins s σ H Q I h => ?_⟩
  refine Call_ (ld_blt I hg hm boot_list (PyProof.Rows.callWith_type1 (args_cons ?_ na) na))
  refine Call_ (ld_blt I hg2 hm2 PyProof.Rows.boot_zip (PyProof.Rows.callWith_type1 (thn (ha.run pos2 pins s σ H _ I h) fun us s1 ⟨vs, H1, I1, r1, q1⟩ => ?_) hs hpl))
  obtain ⟨a, b, xs, ys, ex, hqx, hqy, q⟩ := q1
  subst ex
  cases r1 with
  | cons r rr =>
    cases rr with
    | cons r' rr =>
      cases rr
      cases r
      cases r'
      obtain ⟨its, rv, p1, z1⟩ := I1.list hqx
      obtain ⟨its2, rv2, p2, z2⟩ := I1.list hqy
      refine call_zip_2 p1.isList p2.isList fun h' hz hTI hTO h1 h2 hsz hk => args_nil ?_
      have hmin : (List.zip xs ys).length = min its.toArray.size its2.toArray.size := by rw [List.length_zip, List.size_toArray, List.size_toArray, rv.length, rv2.length]
      have hle : (List.zip xs ys).length ≤ sizeLine := by rw [List.length_zip]; omega
      refine lz_call (I1.ok.hd hc) (PySem.W.ktu_apart s1.heap.objs.size a b p1.lt p2.lt) (by rw [← hmin]; exact hle) hz hTI hTO h1 h2 (p1.isList.at fun o e => hk _ o e) (p2.isList.at fun o e => hk _ o e) fun h'' tk acc c as hk2 hS hlen hG hacc => ?_
      have hk3 : ∀ b o, s1.heap.get? b = some o → h''.get? b = some o := fun b o e => by
        have l := Heap.lt_size e
        exact hk2 b o (Nat.ne_of_lt (Nat.lt_of_lt_of_le l (Nat.le_add_right _ _))) (Nat.ne_of_lt (Nat.lt_of_lt_of_le l (Nat.le_add_right _ _))) (Nat.ne_of_lt l) (Nat.ne_of_lt (Nat.lt_of_lt_of_le l (Nat.le_add_right _ _))) (hk b o e)
      obtain ⟨f1, f2, f3, f4, J⟩ := zip_laid (tk := tk) I1 hle rv rv2 hk3 (show s1.heap.objs.size ≤ h'.objs.size by rw [hsz]; omega) hS (by rw [hlen, hmin]) hG hacc
      exact ⟨.ref _, _, J, rfl, q _ as f1 f2 f3 f4 (by rw [hlen, hmin])⟩
end
end BZ
namespace BB
open PySem PySem.Spec PyProof.Rows L2
section
variable {X : Cx} {K : PySem.W.Frag} {F G H : Hp} {fx : List (Nat × Addr)} {W : WX} {ρ : DE} {σ : L2.St} {pos pos2 : Pos} {a b : Expr} {ml : ML}
theorem rep_pairs : ∀ (ts : List Addr) (ps : List (V × V)) (xs ys : List D) {F H : Hp}, Rep K F G H fx ρ σ → (∀ t, t ∈ ts → H t = none) → ts.Nodup → ts.length = ps.length → DatL K F (ps.map (·.1)) xs → DatL K F (ps.map (·.2)) ys →
    ∃ F', Same F F' ∧ Rep K F' G (BZ.putV H ts ps) fx ρ σ ∧ DatL K F' (ts.map V.ref) (zipD xs ys)
  | [], [], xs, ys, F, H, R, _, _, _, h1, h2 => by
    cases h1
    cases h2
    exact ⟨F, Same.refl F, R, .nil⟩
  | [], _ :: _, _, _, _, _, _, _, _, h, _, _ => by cases h
  | _ :: _, [], _, _, _, _, _, _, _, h, _, _ => by cases h
  | t :: ts, p :: ps, xs, ys, F, H, R, hn, nd, hl, h1, h2 => by
    cases h1 with
    | cons d1 t1 =>
      cases h2 with
      | cons d2 t2 =>
        obtain ⟨n1, n2⟩ := List.nodup_cons.mp nd
        obtain ⟨F1, s1, R1, k1⟩ := out_tup (vs := [p.1, p.2]) R (hn t List.mem_cons_self) (.cons d1 (.cons d2 .nil))
        obtain ⟨F2, s2, R2, k2⟩ := rep_pairs ts ps _ _ R1 (fun u hu => by rw [upd_ne (fun z => n1 (by rw [← z]; exact hu))]; exact hn u (List.mem_cons_of_mem _ hu)) n2 (Nat.succ.inj hl) (t1.mono s1) (t2.mono s1)
        exact ⟨F2, s1.trans s2, R2, .cons (k1.mono s2) k2⟩
def mListZip (m : ML) : M := fun ρ Q X => m ρ (fun ds ρ1 => match ds with
  | [.lst xs, .lst ys] => xs.length = ys.length ∧ Q (.o (.ow (zipD xs ys))) ρ1
  | _ => False) X
theorem zip_fst {α β : Type} : ∀ {xs : List α} {ys : List β}, xs.length = ys.length → (List.zip xs ys).map (·.1) = xs ∧ (List.zip xs ys).map (·.2) = ys
  | [], [], _ => ⟨rfl, rfl⟩
  | [], _ :: _, h => by cases h
  | _ :: _, [], h => by cases h
  | x :: xs, y :: ys, h => by
    obtain ⟨h1, h2⟩ := zip_fst (xs := xs) (ys := ys) (Nat.succ.inj h)
    exact ⟨by rw [List.zip_cons_cons, List.map_cons, h1], by rw [List.zip_cons_cons, List.map_cons, h2]⟩
theorem es_listZip {p p2 : Pos} (hc : X.calm = true) (hm : X.mg "list" = none) (hm2 : X.mg "zip" = none) (h : EL X fx W [a, b] ml) (hg : Gl X "list" := by rfl) (hg2 : Gl X "zip" := by rfl)
    (na : starEach [.Call (.Name "zip" p2) [a, b] [] pos2] X.env = (false, eval (.Call (.Name "zip" p2) [a, b] [] pos2) X.env) :: starEach [] X.env := by rfl)
    (hs : starEach [a, b] X.env = (false, eval a X.env) :: starEach [b] X.env := by rfl) (hpl : (backTo pos2 (starEach [b] X.env)).any (·.1) = false := by rfl) :
    ES X fx W (.Call (.Name "list" p) [.Call (.Name "zip" p2) [a, b] [] pos2] [] pos) (mListZip ml) := by
  refine pe_imp (BZ.pe_listZip hc hg hm hg2 hm2 h na hs hpl) fun σ H Q ⟨F, G, ρ, Q0, X0, R, h, q, x⟩ => ⟨F, G, ρ, _, X0, R, h, fun ds ρ1 h1 F1 H1 vs s1 R1 k1 => ?_, x⟩
  split at h1
  · obtain ⟨hl, h1⟩ := h1
    cases k1 with
    | cons z1 z2 =>
      cases z2 with
      | cons z2 z3 =>
        cases z3
        cases z1 with
        | lst y1 y2 =>
          cases z2 with
          | lst w1 w2 =>
            have hlv := y2.length
            have hlw := w2.length
            rename_i a1 vs a2 ws
            refine ⟨_, _, vs, ws, rfl, SqL.of (R1.fh.lst y1), SqL.of (R1.fh.lst w1), fun p ts hp hts nd npt hlen => ?_⟩
            obtain ⟨e1, e2⟩ := zip_fst (xs := vs) (ys := ws) (by omega)
            obtain ⟨F2, s2, R2, k2⟩ := rep_pairs ts (List.zip vs ws) _ _ R1 hts nd hlen (by rw [e1]; exact y2) (by rw [e2]; exact w2)
            have hp2 : BZ.putV H1 ts (List.zip vs ws) p = none := by rw [BZ.putV_off ts _ _ npt]; exact hp
            obtain ⟨R3, k3⟩ := out_lst R2 hp2 k2
            exact q _ _ h1 F2 _ _ (s1.trans s2) R3 k3
  · exact h1.elim
end
end BB

namespace BB
open PySem PySem.Spec PyProof.Rows L2
section
variable {X : Cx} {K : PySem.W.Frag} {F G H : Hp} {fx : List (Nat × Addr)} {W : WX} {ρ : DE} {σ : L2.St} {pos : Pos} {v : Expr} {m : M}
abbrev MPD := DE → (List (Key × D) → DE → Prop) → MX → Prop
def pdNil : MPD := fun ρ Q _ => Q [] ρ
def pdCons (k : Str) (m : M) (r : MPD) : MPD := fun ρ Q X => m ρ (fun r1 ρ1 => onC (r1.cap ρ1) fun d ρ2 => r ρ2 (fun kvs ρ3 => Q ((.inr k, d) :: kvs) ρ3) X) X
structure PD (X : Cx) (fx : List (Nat × Addr)) (W : WX) (pos : Pos) (ks : List (Option Expr)) (vs : List Expr) (md : MPD) : Prop where
  run : ∃ trs, PPs X pos ks vs trs ∧ ∀ (F G H : Hp) (ρ : DE) (σ : L2.St) (Q0 : List (Key × D) → DE → Prop) (X0 : MX) (Q : List (V × V) → Hp → Prop), Rep X.K F G H fx ρ σ → md ρ Q0 X0 →
    (∀ kvs ρ', Q0 kvs ρ' → ∀ F' H' ws, Same F F' → Rep X.K F' G H' fx ρ' σ → DatK X.K F' ws kvs → Q (ws.map fun kv => (kV kv.1, kv.2)) H') → XOk X.K G fx W F σ X0 → tPairs trs σ H Q
theorem pd_nil : PD X fx W pos [] [] pdNil := ⟨[], pps_nil, fun F G H ρ σ Q0 X0 Q R h q x => q _ _ h F H [] (Same.refl F) R .nil⟩
theorem pd_cons {k : Str} {j : Nat} {kp : Pos} {ks : List (Option Expr)} {vs : List Expr} {md : MPD} (hv : ES X fx W v m) (hr : PD X fx W pos ks vs md) : PD X fx W pos (some (.Constant (.str k) j kp) :: ks) (v :: vs) (pdCons k m md) := by
  obtain ⟨trs, h1, h2⟩ := hr.run
  refine ⟨(tC (.str k), tS X.K fx W m) :: trs, pps_cons pe_str hv h1, fun F G H ρ σ Q0 X0 Q R h q x => ?_⟩
  show tS X.K fx W m σ H fun y H2 => tPairs trs σ H2 fun ps H3 => Q ((.str k, y) :: ps) H3
  refine ⟨F, G, ρ, _, X0, R, h, fun r1 ρ1 g1 F1 H1 v1 s1 R1 k1 => ?_, x⟩
  obtain ⟨d, ρ2, e1, g1⟩ := onC_some g1
  obtain ⟨F2, s2, R2, k2⟩ := k1.cap R1 e1
  exact h2 F2 G H1 ρ2 σ _ X0 _ R2 g1 (fun kvs ρ3 g3 F3 H3 ws s3 R3 k3 => q _ _ g3 F3 H3 ((.inr k, v1) :: ws) ((s1.trans s2).trans s3) R3 (.cons (k2.mono s3) k3)) (x.mono (s1.trans s2))
def mDisp (md : MPD) : M := fun ρ Q X => md ρ (fun kvs ρ1 => kvs.length ≤ 15 ∧ Q (.o (.od (mergeD [] kvs))) ρ1) X
theorem es_disp {ks : List (Option Expr)} {vs : List Expr} {md : MPD} (h : PD X fx W pos ks vs md) (hall : ks.all (·.isSome) = true := by rfl) (hl : ks.length = vs.length := by rfl) (h0 : ks ≠ [] := by exact List.cons_ne_nil _ _) (h15 : ks.length ≤ 15 := by decide) :
    ES X fx W (.Dict ks vs pos) (mDisp md) := by
  obtain ⟨trs, h1, h2⟩ := h.run
  refine pe_imp (pe_disp h1 hall hl h0 h15) fun σ H Q ⟨F, G, ρ, Q0, X0, R, h, q, x⟩ p hp => ?_
  obtain ⟨R1, n1, n2, n3⟩ := R.new (o := .dK []) hp
  have k0 : RvOk X.K F G (upd H p (.dK [])) ρ σ (.o (.od [])) (.ref p) := ⟨rfl, p, _, rfl, upd_same, n1, n2, .nil, n3⟩
  obtain ⟨sg, R2⟩ := R1.lend k0
  have e : gx (.o (.od [])) (.ref p) G (upd H p (.dK [])) = upd G p (.dK []) := by simp only [gx, upd_same]
  rw [e] at sg R2
  refine h2 F (upd G p (.dK [])) _ ρ σ _ X0 _ R2 h (fun kvs ρ1 g1 F1 H1 ws s1 R3 k3 => ?_) (x.more sg)
  obtain ⟨hlen, g1⟩ := g1
  have hF : F1 p = none := by
    cases q : F1 p with
    | none => rfl
    | some u =>
      rcases R3.fg _ _ q with z | ⟨_, _, _, z⟩
      · rw [upd_same] at z; cases z
      · rw [upd_same] at z; cases z
  refine ⟨R3.gh _ _ upd_same, ws, rfl, by rw [DatK.length k3]; exact hlen, ?_⟩
  have R4 := R3.gset (o' := .dK (mergeK [] ws)) fun _ _ z => nomatch z
  have sg2 : Same G (upd G p (.dK (mergeK [] ws))) := fun b u z => by rw [upd_ne (ne_of_none z n2)]; exact z
  refine q _ _ g1 F1 _ _ s1 (R4.less sg2) ⟨rfl, p, _, rfl, upd_same, hF, n2, DatK.merge .nil k3, fun i hi => ?_⟩
  obtain ⟨_, _, _, z, _⟩ := R3.ownH hi
  rw [upd_same] at z
  cases z
end
end BB

namespace BB
open PySem PySem.Spec PyProof.Rows L2
/-! ### what the well known tables mean -/
section
variable {ls : List Line} {r c : Nat}
theorem bit01 (n t : Nat) : n / 2 ^ t % 2 = 0 ∨ n / 2 ^ t % 2 = 1 := by omega
theorem mod_step (n t : Nat) : n % 2 ^ (t + 1) = n % 2 ^ t + 2 ^ t * (n / 2 ^ t % 2) := Nat.mod_pow_succ
theorem mod_bit {n t : Nat} : n % 2 ^ t < 2 ^ t := Nat.mod_lt _ (Nat.pow_pos (by decide))
theorem form0 (g : Str → Int) : formV g [] = 0 := rfl
theorem form1 (g : Str → Int) (k : Int) (x : Str) : formV g [(k, x)] = k * g x := by unfold formV; simp
theorem form2 (g : Str → Int) (k l : Int) (x y : Str) : formV g [(k, x), (l, y)] = k * g x + l * g y := by unfold formV; simp
theorem val0 {x : Str} {l : Line} (h : findL ls x = l) : valN 2 ls r c 0 x = l.2.1 := by rw [← h]; rfl
theorem valS {x : Str} {l : Line} (h : findL ls x = l) (t : Nat) : valN 2 ls r c (t + 1) x = formV (valN 2 ls r c t) (formAt l.2.2 ((r / 2 ^ t % 2 : Nat) : Int) ((c / 2 ^ t % 2 : Nat) : Int)) := by rw [← h]; rfl
theorem val_p (h : findL ls "p" = kP) : ∀ t, valN 2 ls r c t "p" = 2 ^ t
  | 0 => by rw [val0 h]; rfl
  | t + 1 => by
    rw [valS h, Int.pow_succ]
    have ih := val_p h t
    rcases bit01 r t with a | a <;> rcases bit01 c t with b | b <;> rw [a, b]
    all_goals
      show formV _ [(2, "p")] = _
      rw [form1, ih]; omega
theorem val_i (h : findL ls "i" = kI) : ∀ t, valN 2 ls r c t "i" = if r % 2 ^ t = c % 2 ^ t then 1 else 0
  | 0 => by rw [val0 h, Nat.pow_zero, Nat.mod_one, Nat.mod_one]; rfl
  | t + 1 => by
    rw [valS h, mod_step r, mod_step c]
    have ih := val_i h t
    have m1 := mod_bit (n := r) (t := t)
    have m2 := mod_bit (n := c) (t := t)
    rcases bit01 r t with a | a <;> rcases bit01 c t with b | b <;> rw [a, b] <;> clear a b <;> generalize r % 2 ^ t = x at * <;> generalize c % 2 ^ t = y at * <;> generalize 2 ^ t = z at *
    · show formV _ [(1, "i")] = _
      rw [form1, ih]; simp
    · show formV _ [] = _
      rw [form0, if_neg (by omega)]
    · show formV _ [] = _
      rw [form0, if_neg (by omega)]
    · show formV _ [(1, "i")] = _
      rw [form1, ih, Int.one_mul]
      by_cases e : x = y
      · rw [if_pos e, if_pos (by omega)]
      · rw [if_neg e, if_neg (by omega)]
theorem val_d (h : findL ls "d" = kD) : ∀ t, valN 2 ls r c t "d" = if r % 2 ^ t = c % 2 ^ t then 2 ^ t else 0
  | 0 => by rw [val0 h, Nat.pow_zero, Nat.mod_one, Nat.mod_one]; rfl
  | t + 1 => by
    rw [valS h, mod_step r, mod_step c, Int.pow_succ]
    have ih := val_d h t
    have m1 := mod_bit (n := r) (t := t)
    have m2 := mod_bit (n := c) (t := t)
    rcases bit01 r t with a | a <;> rcases bit01 c t with b | b <;> rw [a, b] <;> clear a b <;> generalize (2 : Int) ^ t = w at * <;> generalize r % 2 ^ t = x at * <;> generalize c % 2 ^ t = y at * <;> generalize 2 ^ t = z at *
    · show formV _ [(2, "d")] = _
      rw [form1, ih]
      by_cases e : x = y
      · rw [if_pos e, if_pos (by omega)]; omega
      · rw [if_neg e, if_neg (by omega)]; rfl
    · show formV _ [] = _
      rw [form0, if_neg (by omega)]
    · show formV _ [] = _
      rw [form0, if_neg (by omega)]
    · show formV _ [(2, "d")] = _
      rw [form1, ih]
      by_cases e : x = y
      · rw [if_pos e, if_pos (by omega)]; omega
      · rw [if_neg e, if_neg (by omega)]; rfl
theorem val_e (h : findL ls "e" = kE) : ∀ t, valN 2 ls r c t "e" = if r % 2 ^ t + c % 2 ^ t + 1 = 2 ^ t then 1 else 0
  | 0 => by rw [val0 h, Nat.pow_zero, Nat.mod_one, Nat.mod_one]; rfl
  | t + 1 => by
    rw [valS h, mod_step r, mod_step c, Nat.pow_succ 2 t]
    have ih := val_e h t
    have m1 := mod_bit (n := r) (t := t)
    have m2 := mod_bit (n := c) (t := t)
    rcases bit01 r t with a | a <;> rcases bit01 c t with b | b <;> rw [a, b] <;> clear a b <;> generalize r % 2 ^ t = x at * <;> generalize c % 2 ^ t = y at * <;> generalize 2 ^ t = z at *
    · show formV _ [] = _
      rw [form0, if_neg (by omega)]
    · show formV _ [(1, "e")] = _
      rw [form1, ih, Int.one_mul]
      by_cases e : x + y + 1 = z
      · rw [if_pos e, if_pos (by omega)]
      · rw [if_neg e, if_neg (by omega)]
    · show formV _ [(1, "e")] = _
      rw [form1, ih, Int.one_mul]
      by_cases e : x + y + 1 = z
      · rw [if_pos e, if_pos (by omega)]
      · rw [if_neg e, if_neg (by omega)]
    · show formV _ [] = _
      rw [form0, if_neg (by omega)]
theorem val_r (h : findL ls "r" = kR) (hp : findL ls "p" = kP) : ∀ t, valN 2 ls r c t "r" = ((r % 2 ^ t : Nat) : Int)
  | 0 => by rw [val0 h, Nat.pow_zero, Nat.mod_one]; rfl
  | t + 1 => by
    rw [valS h, mod_step r]
    have ih := val_r h hp t
    have ip := val_p (r := r) (c := c) hp t
    rw [show (2 : Int) ^ t = ((2 ^ t : Nat) : Int) by rw [Int.natCast_pow]; rfl] at ip
    rcases bit01 r t with a | a <;> rcases bit01 c t with b | b <;> rw [a, b] <;> clear a b <;> generalize r % 2 ^ t = x at * <;> generalize 2 ^ t = z at *
    · show formV _ [(1, "r")] = _
      rw [form1, ih]; omega
    · show formV _ [(1, "r")] = _
      rw [form1, ih]; omega
    · show formV _ [(1, "r"), (1, "p")] = _
      rw [form2, ih, ip]; omega
    · show formV _ [(1, "r"), (1, "p")] = _
      rw [form2, ih, ip]; omega
theorem val_c (h : findL ls "c" = kC) (hp : findL ls "p" = kP) : ∀ t, valN 2 ls r c t "c" = ((c % 2 ^ t : Nat) : Int)
  | 0 => by rw [val0 h, Nat.pow_zero, Nat.mod_one]; rfl
  | t + 1 => by
    rw [valS h, mod_step c]
    have ih := val_c h hp t
    have ip := val_p (r := r) (c := c) hp t
    rw [show (2 : Int) ^ t = ((2 ^ t : Nat) : Int) by rw [Int.natCast_pow]; rfl] at ip
    rcases bit01 r t with a | a <;> rcases bit01 c t with b | b <;> rw [a, b] <;> clear a b <;> generalize c % 2 ^ t = x at * <;> generalize 2 ^ t = z at *
    · show formV _ [(1, "c")] = _
      rw [form1, ih]; omega
    · show formV _ [(1, "c"), (1, "p")] = _
      rw [form2, ih, ip]; omega
    · show formV _ [(1, "c")] = _
      rw [form1, ih]; omega
    · show formV _ [(1, "c"), (1, "p")] = _
      rw [form2, ih, ip]; omega
/-- both figures, the greatest ones ahead -/
def prs (r c : Nat) : Nat → List (Nat × Nat)
  | 0 => []
  | t + 1 => (r / 2 ^ t % 2, c / 2 ^ t % 2) :: prs r c t
theorem prs_zip (r c : Nat) : ∀ t, List.zip (dgs 2 r t) (dgs 2 c t) = prs r c t
  | 0 => rfl
  | t + 1 => by
    unfold dgs prs
    rw [List.zip_cons_cons, prs_zip r c t]
theorem prs_len (r c : Nat) : ∀ t, (prs r c t).length = t
  | 0 => rfl
  | t + 1 => by unfold prs; rw [List.length_cons, prs_len r c t]
theorem prs_bit {r c : Nat} : ∀ {t : Nat} {p : Nat × Nat}, p ∈ prs r c t → (p.1 = 0 ∨ p.1 = 1) ∧ (p.2 = 0 ∨ p.2 = 1)
  | t + 1, p, h => by
    unfold prs at h
    rcases List.mem_cons.mp h with rfl | h
    · exact ⟨bit01 r t, bit01 c t⟩
    · exact prs_bit h
/-- figures read as a number -/
def xV (f : Nat × Nat → Int) (r c : Nat) : Nat → Int
  | 0 => 0
  | t + 1 => f (r / 2 ^ t % 2, c / 2 ^ t % 2) * 2 ^ t + xV f r c t
def fX (p : Nat × Nat) : Int := (p.1 : Int) + p.2 - 2 * p.1 * p.2
def fN (p : Nat × Nat) : Int := (p.1 : Int) * p.2
theorem val_x (h : findL ls "x" = kX) (hp : findL ls "p" = kP) : ∀ t, valN 2 ls r c t "x" = xV fX r c t
  | 0 => by rw [val0 h]; rfl
  | t + 1 => by
    rw [valS h]
    unfold xV
    have ih := val_x h hp t
    have ip := val_p (r := r) (c := c) hp t
    rcases bit01 r t with a | a <;> rcases bit01 c t with b | b <;> rw [a, b]
    · show formV _ [(1, "x")] = _
      rw [form1, ih]; unfold fX; simp
    · show formV _ [(1, "x"), (1, "p")] = _
      rw [form2, ih, ip]; unfold fX; simp; omega
    · show formV _ [(1, "x"), (1, "p")] = _
      rw [form2, ih, ip]; unfold fX; simp; omega
    · show formV _ [(1, "x")] = _
      rw [form1, ih]; unfold fX; simp
theorem val_n (h : findL ls "n" = kN) (hp : findL ls "p" = kP) : ∀ t, valN 2 ls r c t "n" = xV fN r c t
  | 0 => by rw [val0 h]; rfl
  | t + 1 => by
    rw [valS h]
    unfold xV
    have ih := val_n h hp t
    have ip := val_p (r := r) (c := c) hp t
    rcases bit01 r t with a | a <;> rcases bit01 c t with b | b <;> rw [a, b]
    · show formV _ [(1, "n")] = _
      rw [form1, ih]; unfold fN; simp
    · show formV _ [(1, "n")] = _
      rw [form1, ih]; unfold fN; simp
    · show formV _ [(1, "n")] = _
      rw [form1, ih]; unfold fN; simp
    · show formV _ [(1, "n"), (1, "p")] = _
      rw [form2, ih, ip]; unfold fN; simp; omega
/-- within: no figure of the column is the greater one -/
def inV (l : List (Nat × Nat)) : Bool := l.all fun p => decide (p.2 ≤ p.1)
def comV (l : List (Nat × Nat)) : Int := (l.map fun p => (p.1 : Int) * p.2).sum
def sumN (l : List Nat) : Int := (l.map fun x : Nat => (x : Int)).sum
theorem val_s (h : findL ls "s" = kS) : ∀ t, valN 2 ls r c t "s" = if inV (prs r c t) = true then 1 else 0
  | 0 => by rw [val0 h]; rfl
  | t + 1 => by
    rw [valS h]
    have ih := val_s h t
    have e : inV (prs r c (t + 1)) = (decide (c / 2 ^ t % 2 ≤ r / 2 ^ t % 2) && inV (prs r c t)) := rfl
    rw [e]
    rcases bit01 r t with a | a <;> rcases bit01 c t with b | b <;> rw [a, b]
    · show formV _ [(1, "s")] = _
      rw [form1, ih]; simp
    · show formV _ [] = _
      rw [form0]; simp
    · show formV _ [(1, "s")] = _
      rw [form1, ih]; simp
    · show formV _ [(1, "s")] = _
      rw [form1, ih]; simp
theorem val_h (h : findL ls "h" = kH) : ∀ t, valN 2 ls r c t "h" = 1 - 2 * (comV (prs r c t)).fmod 2
  | 0 => by rw [val0 h]; rfl
  | t + 1 => by
    rw [valS h]
    have ih := val_h h t
    have e : comV (prs r c (t + 1)) = ((r / 2 ^ t % 2 : Nat) : Int) * ((c / 2 ^ t % 2 : Nat) : Int) + comV (prs r c t) := rfl
    rw [e]
    rw [Int.fmod_eq_emod_of_nonneg _ (by decide)] at *
    rcases bit01 r t with a | a <;> rcases bit01 c t with b | b <;> rw [a, b]
    · show formV _ [(1, "h")] = _
      rw [form1, ih]; simp
    · show formV _ [(1, "h")] = _
      rw [form1, ih]; simp
    · show formV _ [(1, "h")] = _
      rw [form1, ih]; simp
    · show formV _ [(-1, "h")] = _
      rw [form1, ih]; simp; omega
theorem val_m (h : findL ls "m" = kM) : ∀ t, valN 2 ls r c t "m" = (if inV (prs r c t) = true then 1 else 0) * (1 - 2 * (sumN (dgs 2 r t) - sumN (dgs 2 c t)).fmod 2)
  | 0 => by rw [val0 h]; rfl
  | t + 1 => by
    rw [valS h]
    have ih := val_m h t
    have e : inV (prs r c (t + 1)) = (decide (c / 2 ^ t % 2 ≤ r / 2 ^ t % 2) && inV (prs r c t)) := rfl
    have e1 : ∀ n, sumN (dgs 2 n (t + 1)) = ((n / 2 ^ t % 2 : Nat) : Int) + sumN (dgs 2 n t) := fun n => rfl
    rw [e, e1 r, e1 c]
    rw [Int.fmod_eq_emod_of_nonneg _ (by decide)] at *
    rcases bit01 r t with a | a <;> rcases bit01 c t with b | b <;> rw [a, b] <;> clear a b <;> generalize sumN (dgs 2 r t) = x at * <;> generalize sumN (dgs 2 c t) = y at *
    · show formV _ [(1, "m")] = _
      rw [form1, ih]; simp
    · show formV _ [] = _
      rw [form0]; simp
    · show formV _ [(-1, "m")] = _
      rw [form1, ih]
      cases inV (prs r c t) <;> simp
      omega
    · show formV _ [(1, "m")] = _
      rw [form1, ih]
      cases inV (prs r c t) <;> simp
      omega
end
/-- a 1 for each figure of the column that is greater -/
def onesV (l : List (Nat × Nat)) : List Int := l.flatMap fun p => if p.1 < p.2 then [1] else []
theorem ones_map : ∀ l : List (Nat × Nat), (l.flatMap fun p : Nat × Nat => if p.1 < p.2 then [D.int 1] else []) = (onesV l).map D.int
  | [] => rfl
  | p :: l => by
    have ih := ones_map l
    unfold onesV at ih ⊢
    rw [List.flatMap_cons, List.flatMap_cons, List.map_append, ih]
    split <;> rfl
theorem ones_len : ∀ l : List (Nat × Nat), (onesV l).length ≤ l.length
  | [] => Nat.le_refl _
  | p :: l => by
    have ih := ones_len l
    unfold onesV at ih ⊢
    rw [List.flatMap_cons, List.length_append, List.length_cons]
    split
    · rw [List.length_singleton]; omega
    · rw [List.length_nil]; omega
theorem ones_in : ∀ l : List (Nat × Nat), decide (onesV l = []) = inV l
  | [] => rfl
  | p :: l => by
    have ih := ones_in l
    have e : onesV (p :: l) = (if p.1 < p.2 then [1] else []) ++ onesV l := List.flatMap_cons
    have e2 : inV (p :: l) = (decide (p.2 ≤ p.1) && inV l) := rfl
    rw [e, e2, ← ih]
    by_cases h : p.1 < p.2
    · rw [if_pos h, decide_eq_false (show ¬ p.2 ≤ p.1 by omega)]
      simp
    · rw [if_neg h, decide_eq_true (show p.2 ≤ p.1 by omega)]
      simp
theorem fEq_nil (a : List Int) (Q : RV → Prop) : fEq false (.lst (a.map D.int)) (.lst []) Q = Q (.v (.bl (decide (a = [])))) := fEq_li false a [] Q
theorem fIn_two (neg : Bool) (x a b : Str) (Q : RV → Prop) : fIn neg (.str x) (.tup [.str a, .str b]) Q = Q (.v (.bl (if neg then !(decide (x = a ∨ x = b)) else decide (x = a ∨ x = b)))) := by
  have e : (List.any [D.str a, D.str b] fun y => eqF y (.str x)) = decide (x = a ∨ x = b) := by
    simp only [List.any_cons, List.any_nil, eqF, Bool.or_false]
    by_cases h1 : x = a
    · subst h1; simp
    · by_cases h2 : x = b
      · subst h2; simp
      · have n1 : ¬ a = x := fun q => h1 q.symm
        have n2 : ¬ b = x := fun q => h2 q.symm
        simp [h1, h2, n1, n2]
  show ((true = true ∧ true = true) ∧ Q (.v (.bl (if neg then !(List.any [D.str a, D.str b] fun y => eqF y (.str x)) else (List.any [D.str a, D.str b] fun y => eqF y (.str x)))))) = _
  rw [e]
  simp
theorem prs_get {x y : Nat} : ∀ {t i : Nat}, i < t → (prs x y t)[i]? = some (x / 2 ^ (t - 1 - i) % 2, y / 2 ^ (t - 1 - i) % 2)
  | 0, _, h => by omega
  | t + 1, 0, _ => by unfold prs; simp
  | t + 1, i + 1, h => by
    unfold prs
    rw [List.getElem?_cons_succ, prs_get (by omega), show t + 1 - 1 - (i + 1) = t - 1 - i by omega]
theorem xV_step {f : Nat × Nat → Int} {x y t i : Nat} {F w : Int} {p : Nat × Nat} (hp : (prs x y t)[i]? = some p) (h : F * 2 ^ (t - i) + xV f x y (t - i) = w) : (2 * F + f p) * 2 ^ (t - (i + 1)) + xV f x y (t - (i + 1)) = w := by
  have hi : i < t := by
    have := (List.getElem?_eq_some_iff.mp hp).1
    rwa [prs_len] at this
  rw [prs_get hi] at hp
  obtain ⟨s, hs⟩ : ∃ s, t - i = s + 1 := ⟨t - i - 1, by omega⟩
  have e1 : t - (i + 1) = s := by omega
  have e2 : t - 1 - i = s := by omega
  rw [e2] at hp
  cases hp
  rw [hs] at h
  rw [e1, ← h, show xV f x y (s + 1) = f (x / 2 ^ s % 2, y / 2 ^ s % 2) * 2 ^ s + xV f x y s from rfl]
  rw [Int.pow_succ, Int.add_mul, ← Int.mul_assoc F, Int.mul_comm (F * 2 ^ s) 2, Int.mul_assoc 2 F]
  omega
theorem fX_bit {p : Nat × Nat} (h1 : p.1 = 0 ∨ p.1 = 1) (h2 : p.2 = 0 ∨ p.2 = 1) : 0 ≤ fX p ∧ fX p ≤ 1 := by
  obtain ⟨a, b⟩ := p
  unfold fX
  rcases h1 with rfl | rfl <;> rcases h2 with rfl | rfl <;> decide
theorem fN_bit {p : Nat × Nat} (h1 : p.1 = 0 ∨ p.1 = 1) (h2 : p.2 = 0 ∨ p.2 = 1) : 0 ≤ fN p ∧ fN p ≤ 1 := by
  obtain ⟨a, b⟩ := p
  unfold fN
  rcases h1 with rfl | rfl <;> rcases h2 with rfl | rfl <;> decide
abbrev toldD (a b c d h m e r k : D) : List (Key × D) := putD (putD (putD (putD (putD [(Sum.inr ("i" : Str), a), (Sum.inr ("p" : Str), b), (Sum.inr ("d" : Str), c), (Sum.inr ("s" : Str), d)] (Sum.inr ("h" : Str)) h) (Sum.inr ("m" : Str)) m) (Sum.inr ("e" : Str)) e) (Sum.inr ("r" : Str)) r) (Sum.inr ("c" : Str)) k
theorem told_eq (a b c d h m e r k : D) : toldD a b c d h m e r k = [(Sum.inr ("i" : Str), a), (Sum.inr ("p" : Str), b), (Sum.inr ("d" : Str), c), (Sum.inr ("s" : Str), d), (Sum.inr ("h" : Str), h), (Sum.inr ("m" : Str), m), (Sum.inr ("e" : Str), e), (Sum.inr ("r" : Str), r), (Sum.inr ("c" : Str), k)] := rfl
theorem told_get (a b c d h m e r k : D) : valD (toldD a b c d h m e r k) (.inr "i") = some a ∧ valD (toldD a b c d h m e r k) (.inr "p") = some b ∧ valD (toldD a b c d h m e r k) (.inr "d") = some c ∧ valD (toldD a b c d h m e r k) (.inr "s") = some d ∧
    valD (toldD a b c d h m e r k) (.inr "h") = some h ∧ valD (toldD a b c d h m e r k) (.inr "m") = some m ∧ valD (toldD a b c d h m e r k) (.inr "e") = some e ∧ valD (toldD a b c d h m e r k) (.inr "r") = some r ∧ valD (toldD a b c d h m e r k) (.inr "c") = some k := by
  rw [told_eq]
  exact ⟨rfl, rfl, rfl, rfl, rfl, rfl, rfl, rfl, rfl⟩
/-- a well known letter of a book -/
def KnownL (ls : List Line) (L : Str) : Prop :=
  (L = "x" ∧ findL ls "x" = kX ∧ findL ls "p" = kP) ∨ (L = "n" ∧ findL ls "n" = kN ∧ findL ls "p" = kP) ∨ (L = "r" ∧ findL ls "r" = kR ∧ findL ls "p" = kP) ∨ (L = "c" ∧ findL ls "c" = kC ∧ findL ls "p" = kP) ∨
  (L = "i" ∧ findL ls "i" = kI) ∨ (L = "p" ∧ findL ls "p" = kP) ∨ (L = "d" ∧ findL ls "d" = kD) ∨ (L = "s" ∧ findL ls "s" = kS) ∨ (L = "h" ∧ findL ls "h" = kH) ∨ (L = "m" ∧ findL ls "m" = kM) ∨ (L = "e" ∧ findL ls "e" = kE)
def knownB (ls : List Line) (L : Str) : Bool :=
  (decide (L = "x") && decide (findL ls "x" = kX) && decide (findL ls "p" = kP)) || ((decide (L = "n") && decide (findL ls "n" = kN) && decide (findL ls "p" = kP)) || ((decide (L = "r") && decide (findL ls "r" = kR) && decide (findL ls "p" = kP)) || ((decide (L = "c") && decide (findL ls "c" = kC) && decide (findL ls "p" = kP)) ||
  ((decide (L = "i") && decide (findL ls "i" = kI)) || ((decide (L = "p") && decide (findL ls "p" = kP)) || ((decide (L = "d") && decide (findL ls "d" = kD)) || ((decide (L = "s") && decide (findL ls "s" = kS)) || ((decide (L = "h") && decide (findL ls "h" = kH)) || ((decide (L = "m") && decide (findL ls "m" = kM)) || (decide (L = "e") && decide (findL ls "e" = kE)))))))))))
theorem known_word {ls : List Line} (h : (ls.all fun l => knownB ls l.1) = true) : ∀ l, l ∈ ls → KnownL ls l.1 := fun l hl => by
  have := List.all_eq_true.mp h l hl
  unfold knownB at this
  simp only [Bool.or_eq_true, Bool.and_eq_true, decide_eq_true_eq, and_assoc] at this
  exact this
theorem sign_at {z : Str} {ls : List Line} {r : Int} (hz : BB.signs z = ls.map (fun l => .str l.1)) (h0 : 0 ≤ r) (h1 : r < (ls.length : Int)) : ∃ c l, atI z.cps.toList r = some c ∧ l ∈ ls ∧ (⟨#[c]⟩ : Str) = l.1 := by
  obtain ⟨j, rfl⟩ := Int.eq_ofNat_of_zero_le h0
  have hj : j < ls.length := by omega
  have e := congrArg (fun l : List D => l[j]?) hz
  simp only [List.getElem?_map, List.getElem?_eq_getElem hj, Option.map_some, BB.signs] at e
  cases q : z.cps.toList[j]? with
  | none => rw [q] at e; cases e
  | some c =>
    rw [q] at e
    refine ⟨c, ls[j], atI_nat q, List.getElem_mem hj, ?_⟩
    exact D.str.inj (Option.some.inj e)
theorem ent_unit {b : Nat} {ls : List Line} {x : Str} (hb : BookOk b ls) (h1 : 1 ≤ b) (hn : (nmsOf ls).Nodup) (hx : x ∈ nmsOf ls) (t r c : Nat) : entL (sysOf b ls (unitL ls.length (idxL (nmsOf ls) x))) b t r c = valN b ls r c t x := by
  unfold entL
  rw [col_val hb h1 hn]
  have e : (sysOf b ls (unitL ls.length (idxL (nmsOf ls) x))).facs = unitL ((nmsOf ls).map (valN b ls r c t)).length (idxL (nmsOf ls) x) := by
    rw [List.length_map, nms_len]; rfl
  rw [e]
  exact dot_unit _ _ _ (by rw [List.getElem?_map, idx_get hx]; rfl)
theorem unit_99 (n k : Nat) : ∀ x, x ∈ unitL n k → x.natAbs ≤ 99 := fun x hx => by
  have := unit_bd n k x hx
  have h2 : (2 : Nat) ^ 1 = 2 := rfl
  omega
theorem shw_int {x : Int} (hx : x.natAbs < 2 ^ 1900) : ∃ k n, k ≤ 60 ∧ n ≤ sizeLine ∧ Shw k n (.int x) := ⟨0, 1900 + 8, by decide, by rw [sizeLine_eq]; decide, .int hx (by decide)⟩
theorem zip_dot (g : Str → Int) : ∀ (sh : List Int) (ls : List Line), ((List.zip sh ls).map fun p => p.1 * g p.2.1).sum = dotL sh (ls.map fun l => g l.1)
  | [], ls => by simp [dotL]
  | x :: sh, [] => by simp [dotL]
  | x :: sh, l :: ls => by
    have ih := zip_dot g sh ls
    unfold dotL at ih ⊢
    rw [List.zip_cons_cons, List.map_cons, List.sum_cons, List.map_cons, List.zipWith_cons_cons, List.sum_cons, ih]
theorem ent_dot {b : Nat} {ls : List Line} {sh : List Int} (hb : BookOk b ls) (h1 : 1 ≤ b) (hn : (nmsOf ls).Nodup) (t r c : Nat) : ((List.zip sh ls).map fun p => p.1 * valN b ls r c t p.2.1).sum = entL (sysOf b ls sh) b t r c := by
  rw [zip_dot]
  unfold entL
  rw [col_val hb h1 hn]
  unfold nmsOf
  rw [List.map_map]
  rfl
end BB

namespace BZ
open PySem PySem.Spec PyProof.Rows L2
/-- the signs of a text, as values -/
def sgV (q : Str) : List V := q.cps.toList.map fun c => V.str ⟨#[c]⟩
/-- the list at a and the signs of a text side by side -/
def ItzS (K : PySem.W.Frag) (a : Addr) (q : Str) : It :=
  ⟨fun i H => ∃ (xs : List V) (x : V) (c : Nat), SqL K H a xs ∧ xs[i]? = some x ∧ q.cps[i]? = some c,
    fun i H v H' => ∃ T x c, v = .ref T ∧ H T = none ∧ H' = upd H T (.tup [x, .str ⟨#[c]⟩]) ∧ (∀ xs, SqL K H a xs → xs[i]? = some x) ∧ q.cps[i]? = some c,
    fun i H => ∃ xs : List V, SqL K H a xs ∧ xs.length = i ∧ q.cps.size = i⟩
theorem draws_sg {prog : Program} {w : World} {A : Around} (hh : A.handled = none) (it : Addr) (x : Str) (t : Tok) (ty : String) (hty : ty = "str_ascii_iterator" ∨ ty = "str_iterator") :
    Draws prog w A it [it] x.cps.size (fun i v => ∃ c u, x.cps[i]? = some c ∧ v = .str ⟨#[c]⟩ u) (fun i h => h.IsStrIter it ty x t i) := by
  rcases hty with rfl | rfl
  · exact Draws.strAscii hh it x t
  · exact Draws.strWide hh it x t
theorem sub4 {b z TI TO i1 i2 : Addr} (h : b ∈ [z, TO, i1, i2]) : b ∈ [z, TI, TO, i1, i2] := by
  simp only [List.mem_cons, List.not_mem_nil, or_false] at h ⊢
  rcases h with r | r | r | r <;> simp [r]
theorem turn_zipS {P : Program} {w : World} {K : PySem.W.Frag} {elts : List Expr} {kk : Nat} {tpos : Pos} {a z TI TO i1 i2 : Addr} {q : Str} {t : Tok} {ty : String} (hty : ty = "str_ascii_iterator" ∨ ty = "str_iterator") (S : ZipSep2 z TI TO i1 i2 [i1, a] [i2]) :
    Turn P w K (.Tuple elts kk tpos) (ItzS K a q) [z, TI, TO, i1, i2] z (fun i h => IsZip h z TI TO .none ∧ IsTupOf2 h TI (.ref i1) (.ref i2) ∧ (∃ x y, IsTupOf2 h TO x y) ∧ h.IsListIter i1 a i ∧ h.IsStrIter i2 ty q t i) where
  mem := by simp
  obj := fun i h st c hc => by
    obtain ⟨hz, hTI, ⟨x, y, hTO⟩, ⟨o1, e1, _, d1⟩, ⟨o2, e2, _, d2⟩⟩ := st
    have e' : c = z ∨ c = TI ∨ c = TO ∨ c = i1 ∨ c = i2 := by simpa using hc
    rcases e' with q | q | q | q | q
    · rw [q]; exact ⟨_, hz, fun v q => nomatch q⟩
    · rw [q]; exact ⟨_, hTI, fun v q => nomatch q⟩
    · rw [q]; exact ⟨_, hTO, fun v q => nomatch q⟩
    · rw [q]; exact ⟨o1, e1, fun v q => by rw [d1] at q; cases q⟩
    · rw [q]; exact ⟨o2, e2, fun v q => by rw [d2] at q; cases q⟩
  keep := fun i h h' st k => by
    obtain ⟨hz, hTI, ⟨x, y, hTO⟩, h1, ⟨o2, e2, r2⟩⟩ := st
    exact ⟨k z (by simp) _ hz, k TI (by simp) _ hTI, ⟨x, y, k TO (by simp) _ hTO⟩, h1.at fun o q => k i1 (by simp) o q, ⟨o2, k i2 (by simp) _ e2, r2⟩⟩
  item := by
    intro X hP hw hK hc i pins s σ H E I hf st hg
    subst hP hw hK
    obtain ⟨hz, hTI, hTO, h1, h2⟩ := st
    obtain ⟨xs, x, c, hqx, hx, hcx⟩ := hg
    obtain ⟨its, rv, p, _⟩ := I.list hqx
    obtain ⟨u, hu, ru⟩ := rv.get hx
    have hh : X.A.in1.handled = none := I.ok.hd hc
    have na : a ≠ i1 := fun e => by
      obtain ⟨o2, e2, e3, _⟩ := h1
      obtain ⟨o3, e4, e5, _⟩ := p.isList
      rw [e, e2] at e4
      cases e4
      exact absurd (e3.symm.trans e5) (by decide)
    have W := WalksT.zipD2 (A := X.A) S (Draws.list (prog := X.prog) (w := X.w) hh i1 a na its.toArray) (draws_sg (prog := X.prog) (w := X.w) hh i2 q t ty hty)
    have hi1 : i < its.toArray.size := by
      have := (List.getElem?_eq_some_iff.mp hu).1
      simpa using this
    have hi2 : i < q.cps.size := (Array.getElem?_eq_some_iff.mp hcx).1
    refine W.item i s _ _ (by omega) ⟨hz, hTI, hTO, ⟨h1, p.isList⟩, h2⟩ fun T vals h' tk hv hT hTup hMid hk => ?_
    obtain ⟨v1, v2, hv1, ⟨c', k, hc', rfl⟩, rfl⟩ := hv
    rw [List.getElem?_toArray, hu] at hv1
    cases hv1
    rw [hcx] at hc'
    cases hc'
    refine ⟨_, rfl, W.go elts kk tpos i T { s with heap := h', toks := tk } _ _ hMid fun h'' st'' hk'' => ?_⟩
    obtain ⟨oT, eT, cT, nT, dT⟩ := hTup
    have hTw : T ∉ [z, TO, i1, i2] := W.apart i T h' hMid
    have new : ObjOk X.prog X.w (upd H T (.tup [x, .str ⟨#[c]⟩])) h'' T (.tup [x, .str ⟨#[c]⟩]) :=
      ⟨by show 2 ≤ sizeLine; decide, [u, .str ⟨#[c]⟩ k], .cons ru (.cons ⟨k, rfl⟩ .nil), ⟨oT, hk'' T oT hTw eT, cT, nT, dT⟩⟩
    have I1 : Inv X pins σ (upd H T (.tup [x, .str ⟨#[c]⟩])) { s with heap := h'', toks := tk } :=
      I.turnedNew (t' := tk) (ch := [z, TI, TO, i1, i2]) (fun b o hb e => hk'' b o (fun q' => hb (sub4 q')) (hk b o (fun q' => hb (sub4 q')) e)) hf hT new
    obtain ⟨z1, z2, z3, ⟨z4, _⟩, z5⟩ := st''
    refine ⟨.ref T, _, I1, rfl, ⟨T, x, c, rfl, I.hok.fresh hT, rfl, fun l hl => by rw [I.list_inj hl hqx]; exact hx, hcx⟩, ⟨z1, z2, z3, z4, z5⟩, fun b hb => ?_⟩
    have hlt : b < s.heap.objs.size := by
      have e' : b = z ∨ b = TI ∨ b = TO ∨ b = i1 ∨ b = i2 := by simpa using hb
      obtain ⟨x0, y0, hTO⟩ := hTO
      rcases e' with q | q | q | q | q
      · rw [q]; exact Heap.lt_size hz
      · rw [q]; exact Heap.lt_size hTI
      · rw [q]; exact Heap.lt_size hTO
      · rw [q]; obtain ⟨_, e1, _⟩ := h1; exact Heap.lt_size e1
      · rw [q]; obtain ⟨_, e2, _⟩ := h2; exact Heap.lt_size e2
    rw [upd_ne (Nat.ne_of_lt (Nat.lt_of_lt_of_le hlt hT))]
    exact (hf b hb).1
  done := by
    intro X hP hw hK hc i pins s σ H E I hf st hg
    subst hP hw hK
    obtain ⟨hz, hTI, ⟨x0, y0, hTO⟩, h1, h2⟩ := st
    obtain ⟨xs, hqx, hl1, hl2⟩ := hg
    obtain ⟨its, rv, p, _⟩ := I.list hqx
    have hh : X.A.in1.handled = none := I.ok.hd hc
    have na : a ≠ i1 := fun e => by
      obtain ⟨o2, e2, e3, _⟩ := h1
      obtain ⟨o3, e4, e5, _⟩ := p.isList
      rw [e, e2] at e4
      cases e4
      exact absurd (e3.symm.trans e5) (by decide)
    have l1 := rv.length
    exact wpAny_pyNext_zipD2_end S (Draws.list (prog := X.prog) (w := X.w) hh i1 a na its.toArray) (draws_sg (prog := X.prog) (w := X.w) hh i2 q t ty hty) hz hTI hTO ⟨h1, p.isList⟩ h2 (by simp; omega) (by omega) (.inr hl2.symm)
      fun h' tk hk => ⟨rfl, I.turnedL (t' := tk) (ch := [z, TI, TO, i1, i2]) (fun c o hb q => hk c o (fun q' => hb (by simp [q'])) (fun q' => hb (by simp [q'])) (fun q' => hb (by simp [q'])) (fun q' => hb (by simp [q'])) q) hf⟩
  self := fun A i s Q E st h => wpAny_pyIter_zip st.1 h
end BZ
namespace BZ
open PySem PySem.Spec PyProof.Rows L2
def iZipLS (K : PySem.W.Frag) (ta : TA) : TI := fun σ H R => ta σ H fun vs H1 => ∃ (a : Addr) (xs : List V) (q : Str), vs = [.ref a, .str q] ∧ SqL K H1 a xs ∧ R (ItzS K a q) H1
theorem sg_ty (q : Str) : strIterType q = "str_ascii_iterator" ∨ strIterType q = "str_iterator" := by
  unfold strIterType
  split <;> simp
theorem pi_zipS {X : Cx} {e e2 : Expr} {ta : TA} {p pos tpos : Pos} {elts : List Expr} {kk : Nat} (hg : Gl X "zip") (hm : X.mg "zip" = none) (ha : PA X [e, e2] ta)
    (hs : starEach [e, e2] X.env = (false, eval e X.env) :: starEach [e2] X.env := by rfl) (hpl : (backTo pos (starEach [e2] X.env)).any (·.1) = false := by rfl) :
    PI X (.Tuple elts kk tpos) (.Call (.Name "zip" p) [e, e2] [] pos) (iZipLS X.K ta) := by
  refine ⟨fun pins s σ H R I h => ?_⟩
  refine Call_ (ld_blt I hg hm PyProof.Rows.boot_zip (PyProof.Rows.callWith_type1 (thn (ha.run pos pins s σ H _ I h) fun us s1 ⟨vs, H1, I1, r1, q1⟩ => ?_) hs hpl))
  obtain ⟨a, xs, q, ex, hqx, q1⟩ := q1
  subst ex
  cases r1 with
  | cons r rr =>
    cases rr with
    | cons r' rr =>
      cases rr
      cases r
      obtain ⟨t, rfl⟩ := r'
      have fresh5 : ∀ c, c ∈ [s1.heap.objs.size + 4, s1.heap.objs.size + 2, s1.heap.objs.size + 3, s1.heap.objs.size, s1.heap.objs.size + 1] → FpOk X pins H1 c := fun c hcm => by
        have hle : s1.heap.objs.size ≤ c := by
          simp only [List.mem_cons, List.not_mem_nil, or_false] at hcm
          rcases hcm with z | z | z | z | z
          · rw [z]; exact Nat.le_add_right _ _
          · rw [z]; exact Nat.le_add_right _ _
          · rw [z]; exact Nat.le_add_right _ _
          · rw [z]; exact Nat.le_refl _
          · rw [z]; exact Nat.le_add_right _ _
        exact I1.fpOk hle (I1.hok.fresh hle)
      obtain ⟨its, rv, p1, _⟩ := I1.list hqx
      refine zip_begins2 (begins_list a its.toArray) (begins_text q t) p1.isList trivial fun h' hz hTI hTO g1 g2 hsz hk => wpAny_pyIter_zip hz ?_
      have I2 : Inv X pins σ H1 { s1 with heap := h' } := I1.kept (t' := s1.toks) hk
      have S := zip_sep2 (N := s1.heap.objs.size) (fp1 := [a]) (fp2 := []) (fun b hb => by rw [List.mem_singleton.mp hb]; exact p1.lt) (fun b hb => by cases hb)
      exact ⟨s1.heap.objs.size + 4, [s1.heap.objs.size + 4, s1.heap.objs.size + 2, s1.heap.objs.size + 3, s1.heap.objs.size, s1.heap.objs.size + 1], _, _, H1, rfl, I2, turn_zipS (t := t) (sg_ty q) S, ⟨hz, hTI, ⟨_, _, hTO⟩, ⟨_, g1, rfl, rfl⟩, ⟨_, g2, rfl, rfl⟩⟩, fresh5, q1⟩
end BZ
namespace BB
open PySem PySem.Spec PyProof.Rows L2
section
variable {X : Cx} {K : PySem.W.Frag} {F G H : Hp} {fx : List (Nat × Addr)} {W : WX} {ρ : DE} {σ : L2.St} {pos : Pos} {a b : Expr} {ml : ML}
theorem itd_zipS {p : Addr} {q : Str} {vs : List V} {xs : List D} (h : F p = some (.lst vs)) (dv : DatL K F vs xs) (hl : xs.length = q.cps.size) : ItD K F G (BZ.ItzS K p q) (zipD xs (signs q)) where
  go := fun i H s _ hi => by
    rw [zipD_length] at hi
    obtain ⟨x, hx⟩ : ∃ d, xs[i]? = some d := ⟨xs[i]'(by omega), List.getElem?_eq_getElem (by omega)⟩
    obtain ⟨v, hv, _⟩ := dv.get hx
    have hi2 : i < q.cps.size := by omega
    exact ⟨vs, v, q.cps[i], SqL.of (s.lst h), hv, Array.getElem?_eq_getElem hi2⟩
  stop := fun H s _ => ⟨vs, SqL.of (s.lst h), by
    have : (signs q).length = q.cps.size := by unfold signs; rw [List.length_map, Array.length_toList]
    rw [dv.length, zipD_length, this]; omega, by
    have : (signs q).length = q.cps.size := by unfold signs; rw [List.length_map, Array.length_toList]
    rw [zipD_length, this]; omega⟩
  yld := fun i H x H' s _ hi y => by
    obtain ⟨T, v, c, rfl, hT, rfl, hx, hc⟩ := y
    obtain ⟨d, hd, dd⟩ := dv.getv (hx vs (SqL.of (s.lst h)))
    have hc2 : (signs q)[i]? = some (.str ⟨#[c]⟩) := by unfold signs; rw [List.getElem?_map, Array.getElem?_toList, hc]; rfl
    exact ⟨_, zipD_get i xs (signs q) d _ hd hc2, .inr ⟨T, _, rfl, hT, rfl, fun F' sf hF => .tup (.inl (.inl hF)) (.cons (dd.mono sf) (.cons (.str _) .nil))⟩⟩
def iZipS (m : ML) : ML := fun ρ Q X => m ρ (fun ds ρ1 => match ds with
  | [.lst xs, .str z] => xs.length = z.cps.size ∧ Q (zipD xs (signs z)) ρ1
  | _ => False) X
theorem ei_zipS {elts : List Expr} {kk : Nat} {p tpos : Pos} (hm : X.mg "zip" = none) (h : EL X fx W [a, b] ml) (hg : Gl X "zip" := by rfl)
    (hs : starEach [a, b] X.env = (false, eval a X.env) :: starEach [b] X.env := by rfl) (hpl : (backTo pos (starEach [b] X.env)).any (·.1) = false := by rfl) :
    EI X fx W (.Tuple elts kk tpos) (.Call (.Name "zip" p) [a, b] [] pos) (iZipS ml) := by
  refine pi_imp (BZ.pi_zipS hg hm h hs hpl) fun σ H Q ⟨F, G, ρ, Q0, X0, R, h, q, x⟩ => ⟨F, G, ρ, _, X0, R, h, fun ds ρ1 h1 F1 H1 vs s1 R1 k1 => ?_, x⟩
  split at h1
  · obtain ⟨hl, h1⟩ := h1
    cases k1 with
    | cons z1 z2 =>
      cases z2 with
      | cons z2 z3 =>
        cases z3
        cases z1 with
        | lst y1 y2 =>
          cases z2 with
          | str _ => exact ⟨_, _, _, rfl, SqL.of (R1.fh.lst y1), q _ _ h1 F1 G hp0 H1 _ s1 (Same.refl G) fz0 sd0 R1 (itd_zipS y1 y2 hl)⟩
  · exact h1.elim
end
end BB

namespace BX
open PySem PySem.Spec PyProof.Rows L2
open PySem.W (kxs_mw ksEnv ksFn)
/-- the initialiser of an own error, made over ValueError by way of super() -/
abbrev xBody (p0 p1 p2 p3 p4 p5 p6 p7 p8 p9 : Pos) : List Stmt :=
  [.Expr (.Call (.Attribute (.Call (.Name "super" p0) [] [] p1) "__init__" p2) [.Name "value" p3] [] p4) p5, .Assign [.Attribute (.Name "self" p6) "value" p7] (.Name "value" p8) p9]
section
variable {prog : Program} {w : World} {A : Around} {E : Value → Shared → Prop} {h : Heap} {g : Array GenState} {d : Drawn} {t : Nat} {os : OsState}
variable {nm q : Str} {C N : Addr} {bs bm : List Value} {hdct : Bool} {sn : List Str} {sub : List Value} {ab : Bool} {col : Option Bool} {dd : Option Addr} {k0 k1 k2 k3 k5 : Option Value}
theorem call_mw {u e t0 : Addr} {rest : List Value} {Q : Value → Shared → Prop}
    (hC : h.get? C = some (excClassObj nm q C N bs bm hdct sn sub ab col dd k0 k1 k2 k3 k5 "ValueError.__new__")) (he : h.get? e = some (HandSPX.excO C t0)) (hu : h.get? u = some (kxs_mw "ValueError.__init__" e)) (hrest : rest.length ≤ sizeLine)
    (hq : ∀ h' t1, (∀ b o, b ≠ e → h.get? b = some o → h'.get? b = some o) → h'.get? e = some (HandSPX.excO C t1) → Q .none ⟨h', g, d, t, os⟩) :
    wpAny (model prog w) A (call (.ref u) rest) Q E ⟨h, g, d, t, os⟩ := by
  refine wpAny_call (codeAny_of_tree ?_)
  show wpAny _ A.in1 (callAny (.ref u) ⟨rest, []⟩) _ _ _
  simp only [callAny]
  refine wpAny_bind (wpAny_load hu ?_)
  simp only [kxs_mw, show (Value.type "method-wrapper" == Value.type "method" || Value.type "method-wrapper" == Value.type "builtin_function_or_method" || Value.type "method-wrapper" == Value.type "method-wrapper") = true by decide, if_true]
  refine PySem.W.KFB.if_so (by decide) ?_
  refine wpAny_bind (ESX.check_bound F.excBase_ValueError hC he rfl ?_)
  refine wpAny_bind (wpAny_pure (wpAny_pure ?_))
  refine ⟨Code.quiet_builtin _ (by decide +kernel), codeAny_builtin F.excBase_ValueError.initEntry ?_⟩
  rw [Around.under_plainId F.excBase_ValueError.init.plain _]
  wp_walk
  refine hq _ h.objs.size (fun b o hb ho => ?_) ?_
  · rw [Heap.get?_update_other _ _ (Ne.symm hb)]
    exact Heap.get?_push_of_some _ ho
  · rw [Heap.get?_update_self _ (Heap.get?_push_of_some _ he) rfl]
    rfl
end
end BX

namespace BX
open PySem PySem.Spec PyProof.Rows L2
open PySem.W (kxs_mw ksEnv ksFn ks_superIn)
/-- what a class below D must say -/
structure XCls (K : PySem.W.Frag) (D C : Addr) : Prop where
  ox : OexC K C
  va : PySem.W.findIn K (.ref C) "value" = some none
  sub : PySem.W.mroIn K C (.ref D) = some true
  sup : ks_superIn K C D "__init__" = some (some (.builtin "ValueError.__init__"))
  ve : PySem.W.subIn K (.ref C) (.type "ValueError") = some true
/-- what D.__init__ promises -/
def spX (K : PySem.W.Frag) (D : Addr) : Sp := fun vs H Q E => ∃ (a C : Addr) (y : V), vs = [.ref a, y] ∧ XCls K D C ∧ H a = some (exo a C none) ∧
  ∀ dx, H dx = none → dx ≠ a → Q .non (upd (upd H dx (exd dx [(("value" : Str), y)])) a (exo a C (some dx)))
section
variable {P : Program} {w : World} {K : PySem.W.Frag} {mg : Str → Option Value} {base : Heap} {D fI cda cc : Addr} {qual file : Str} {params : Arguments} {scope : Scope} {p0 p1 p2 p3 p4 p5 p6 p7 p8 p9 : Pos}
variable {dV kV doc pm ct oc ccl cl : Value} {an od cdd cld : Option Addr} {osl ccs csl : Array (Option Value)} {vs0 : Array Value} {tf : Tok} {cdD : ClassData} {ar : Arg}
theorem xinit_ok (lk : K.lookup fI = some ⟨oc, od, .func (ksFn "__init__" qual params (xBody p0 p1 p2 p3 p4 p5 p6 p7 p8 p9) scope dV kV doc pm an (.ref cda) ct cc), osl⟩) (hcd : PySem.W.codeIn K (.ref cda) qual = true)
    (hcode : K.lookup cda = some ⟨ccl, cdd, .fields vs0, ccs⟩) (hvs : vs0[2]? = some (.str file tf)) (hfile : ((P.main.file : Str) == file) = true)
    (hcell : K.lookup cc = some ⟨cl, cld, .cell (some (.ref D)), csl⟩) (hD : PySem.W.clsIn K D = some cdD) (hst : PySem.W.nsIn K cStatics "thirdparty.any" = some none) (hms : mg "super" = none)
    (htop : (P.main.scope.names.lookup ("super" : Str)).isSome = false)
    (hp : (params.posonlyargs ++ params.args).head? = some ar) (har : ar.arg = ("self" : Str))
    (hks : scope.names.lookup ("super" : Str) = some .globalImplicit) (hkc : scope.names.lookup ("__class__" : Str) = some .free) (hka : scope.names.lookup ("self" : Str) = some .local) (hkv : scope.names.lookup ("value" : Str) = some .local)
    (hk : scope.kind = .function) (hco : scope.isCoroutine = false) (hgen : scope.isGenerator = false) (hce : ∀ x ∈ scope.names, x.2 ≠ .cell) {pl : Env → Sem Bool}
    (hev : ∀ env : Env, eval (.Call (.Attribute (.Call (.Name "super" p0) [] [] p1) "__init__" p2) [.Name "value" p3] [] p4) env = (do
      let ov ← attributeBase (.Call (.Name "super" p0) [] [] p1) "__init__" env (eval (.Call (.Name "super" p0) [] [] p1) env)
      standAt p2.atName
      let (f, first) ← holding [ov] (getMethod ov "__init__" (pl env))
      callWith p4 f first (backTo p4 (starEach [.Name "value" p3] env)) [])) :
    FnOk P w K mg base (L2.CX P w) 1 fI (ksFn "__init__" qual params (xBody p0 p1 p2 p3 p4 p5 p6 p7 p8 p9) scope dV kV doc pm an (.ref cda) ct cc) ["self", "value"] (spX K D) := by
  refine ⟨fun vs H Q E ⟨a, C, y, e, _⟩ => by rw [e]; rfl, fun A outer s H args us vs Q E hr e0 hb r hsp => ?_⟩
  obtain ⟨a, C, y, rfl, xc, ea, q⟩ := hsp
  cases r with
  | cons r1 rr =>
  cases rr with
  | cons r2 rr =>
  cases rr
  rename_i ua u
  obtain rfl : ua = Value.ref a := r1
  have KX : K.In s.heap := e0.mod.kin.keeps fun b o e => (e0.bs b o e).1
  have lim : s.heap.NoLimit := e0.mod.nolimit.keeps fun b o e => (e0.bs b o e).1
  obtain ⟨nm, q0, N, bs, bm, sn, sub, ab, col, dd, k0, k1, k2, k3, k5, hC, hbm⟩ := xc.ox.cls
  have hcl : PySem.W.clsIn K C = some { name := nm, bases := bs, mro := .ref C :: bm, ns := N, qualname := q0, hasDict := true, slotNames := sn, subclasses := sub, abstract := ab, collection := col, hasDel := false } := by unfold PySem.W.clsIn; rw [hC] <;> rfl
  obtain ⟨t1, hx⟩ := exo_at e0.hok ea
  have haL : a ≠ s.heap.objs.size := Nat.ne_of_lt (Heap.lt_size hx)
  refine ks_codeAny_call_defAt (fd := ksFn "__init__" qual params (xBody p0 p1 p2 p3 p4 p5 p6 p7 p8 p9) scope dV kV doc pm an (.ref cda) ct cc) (body := xBody p0 p1 p2 p3 p4 p5 p6 p7 p8 p9) hr.depth (KX _ _ lk) rfl lim (PySem.W.codeRec_of KX hcd) rfl hb hce ?_ (fun h₁ hns hk1 => ?_) hco hgen hk
  · intro z hz
    have hz' : z = (("self" : Str), Value.ref a) ∨ z = (("value" : Str), u) := by simpa using hz
    rcases hz' with rfl | rfl
    · exact hka
    · exact hkv
  show PySem.wpAt (model P w) (A.deeper (ksEnv qual scope s.heap.objs.size fI (.ref cda) cc)) (.func (xBody p0 p1 p2 p3 p4 p5 p6 p7 p8 p9) (ksEnv qual scope s.heap.objs.size fI (.ref cda) cc)) (execs (xBody p0 p1 p2 p3 p4 p5 p6 p7 p8 p9) (ksEnv qual scope s.heap.objs.size fI (.ref cda) cc)) _ _ _
  generalize hA : A.deeper (ksEnv qual scope s.heap.objs.size fI (.ref cda) cc) = A1
  have X1 : K.In h₁ := KX.keeps hk1
  have hx1 := hk1 _ _ hx
  have Lf : ∀ {h' : Heap}, (∀ b o, b ≠ a → h₁.get? b = some o → h'.get? b = some o) → h'.Ns s.heap.objs.size fun x => List.lookup x [(("value" : Str), u), (("self" : Str), Value.ref a)] := fun {h'} k => by
    obtain ⟨oL, es, ep, hL, r⟩ := hns
    exact ⟨oL, es, ep, k _ _ (Ne.symm haL) hL, r⟩
  refine ks_wpAt_execs_cons (ks_wpAt_Expr_any (hi := by unfold interactive; rw [show (ksEnv qual scope s.heap.objs.size fI (.ref cda) cc).scope.kind = .function from hk]; rfl) (ks_wpAt_MethodCall (pl := pl _) (ks_wpAt_super_base (env := ksEnv qual scope s.heap.objs.size fI (.ref cda) cc) hks hkc (by decide) rfl (X1 _ _ lk) rfl hp rfl (X1 _ _ hcode) rfl hvs hfile htop ?_) (hev _)))
  obtain ⟨oD, hD1, hD2⟩ : ∃ oD, h₁.get? D = some oD ∧ oD.data = .cls cdD := by
    unfold PySem.W.clsIn at hD
    split at hD
    · rename_i c d cd' sl ho
      cases hD
      exact ⟨_, X1 _ _ ho, rfl⟩
    · cases hD
  obtain ⟨mb, hbN, hbv⟩ := e0.mod.blt
  have kb : ∀ b o, base.get? b = some o → h₁.get? b = some o := fun b o e => hk1 b o (e0.bs b o e).1
  refine PySem.W.ks_loadName_global hk hks (Calls.loadGlobal_builtin (env := ksEnv qual scope s.heap.objs.size fI (.ref cda) cc) (e0.mod.glob.keeps kb) hms (hbN.keeps kb) ((hbv _ (by decide)).trans (show bootBuiltins "super" = some (.type "super") from by boot_by_name)) ⟨rfl, ?_⟩)
  refine wpAny_loadName_free hk hkc rfl ⟨_, X1 _ _ hcell, rfl⟩ ?_
  rw [har]
  refine wpAny_loadName_local hk hka (Lf fun b o _ e => e) rfl ?_
  refine ks_wpAny_isType_cls hD1 hD2 ⟨rfl, ?_⟩
  refine ks_wpAny_call_super hD1 hD2 hx1 rfl (fun c e => nomatch e) (PySem.W.looks_mroIn X1 xc.sub) fun h2 e2 k2 => ?_
  have X2 : K.In h2 := X1.keeps k2
  have hx2 := k2 _ _ hx1
  have I2 : PySem.W.InstAt h2 a ({ cls := .ref C, dict := none, data := .fields #[.ref t1, .none, .none, .none, .bool false, .none] } : Obj) C none := ⟨hx2, rfl, rfl, trivial⟩
  have hsup := xc.sup
  unfold ks_superIn at hsup
  rw [hcl] at hsup
  refine PySem.W.kxs_getMethod PySem.W.kxs_ValueError e2 (PySem.W.looks_opaque X2 hst) (l₀ := .ref C :: bm) ((PySem.W.looks_clsIn X2 hcl).andThen .now) rfl X2 hsup (I2.type.andThen (PySem.W.looks_subIn X2 xc.ve)) (PySem.W.ks_ne X2 I2 hcl) (by decide) ?_
  have k3 : ∀ b o, h₁.get? b = some o → (h2.push (kxs_mw "ValueError.__init__" a)).get? b = some o := fun b o e => Heap.get?_push_of_some _ (k2 b o e)
  have hmw : (h2.push (kxs_mw "ValueError.__init__" a)).get? h2.objs.size = some (kxs_mw "ValueError.__init__" a) := Heap.get?_push_size _ rfl
  generalize h2.push (kxs_mw "ValueError.__init__" a) = h3 at k3 hmw
  have X3 : K.In h3 := X1.keeps k3
  have hx3 := k3 _ _ hx1
  show wpAny (model P w) A1 (callWith p4 (.ref h2.objs.size) [] (backTo p4 (starEach [.Name "value" p3] (ksEnv qual scope s.heap.objs.size fI (.ref cda) cc))) []) _ _ _
  refine PySem.W.kxs_callWith (i := "ValueError.__init__") (x := a) rfl ?_
  refine Calls.evalArgs_plain (Calls.spliced_cons (ESX.ldL (Lf fun b o _ e => k3 b o e) rfl (Calls.spliced_nil ⟨hmw, ?_⟩) hk hkv))
  show wpAny (model P w) A1 (call (.ref h2.objs.size) [u]) _ _ _
  refine call_mw (X3 _ _ hC) hx3 hmw (by show 1 ≤ sizeLine; rw [sizeLine_eq]; omega) fun h4 t2 k4 hx4 => ?_
  have k14 : ∀ b o, b ≠ a → h₁.get? b = some o → h4.get? b = some o := fun b o n e => k4 b o n (k3 b o e)
  have X4 : K.In h4 := fun b o e => k14 b o (fun z => by
    have z1 := (e0.bs b o (e0.mod.kin _ _ e)).2
    rw [z, ea] at z1
    cases z1) (X1 _ _ e)
  show PySem.wpAt (model P w) A1 (.func (xBody p0 p1 p2 p3 p4 p5 p6 p7 p8 p9) (ksEnv qual scope s.heap.objs.size fI (.ref cda) cc)) (execs [.Assign [.Attribute (.Name "self" p6) "value" p7] (.Name "value" p8) p9] (ksEnv qual scope s.heap.objs.size fI (.ref cda) cc)) _ _ _
  have L4 : h4.Ns s.heap.objs.size fun x => List.lookup x [(("value" : Str), u), (("self" : Str), Value.ref a)] := Lf k14
  refine ks_wpAt_execs_cons (wpAt_of_wpAny (plainObj_wpAny_Assign_Attribute (ESX.ldL L4 rfl (ESX.ldL L4 rfl ?_ hk hka) hk hkv)))
  refine PySem.W.set_plain X4 (ox := { cls := .ref C, dict := none, data := .fields #[.ref t2, .none, .none, .none, .bool false, .none] }) (od := none) ⟨hx4, rfl, rfl, trivial⟩ xc.ox.sa ?_
  refine PySem.HandSPX.exc_osa X4 hx4 hcl (show PySem.HandSPX.refsVE (.ref C :: bm) = true from hbm) rfl xc.va (fun h' tk' dx k dn dne hx' hn => ?_)
  have ks : ∀ b o, b ≠ a → s.heap.get? b = some o → h'.get? b = some o := fun b o n e => k b o n (k14 b o n (hk1 b o e))
  have ng : s.heap.get? dx = none := by
    cases z : s.heap.get? dx with
    | none => rfl
    | some o => exact absurd (Heap.lt_size (k14 dx o dne (hk1 dx o z))) (Nat.not_lt.mpr dn)
  have hnd : H dx = none := e0.hok.gone ng
  have nd : ∀ {b : Addr} {o : Obj}, s.heap.get? b = some o → b ≠ dx := fun {b o} q z => by
    rw [z, ng] at q
    cases q
  have na : ∀ {b : Addr}, H b = none → b ≠ a := fun {b} n z => by
    rw [z, ea] at n
    cases n
  have Un1 : Un (frs outer) [] H (upd (upd H dx (exd dx [(("value" : Str), y)])) a (exo a C (some dx))) s.heap h' := {
    keep := fun b o q n _ _ => ks b o (na n) q
    slot := fun b o q n _ _ => ⟨o.slots, ks b o (na n) q⟩
    free := fun b o q n _ => by rw [upd_ne (na n), upd_ne (nd q)]; exact n
    there := fun b o q _ => by
      by_cases hb : b = a
      · exact ⟨_, by rw [hb]; exact hx'⟩
      · exact ⟨o, ks b o hb q⟩
    tups := fun b xs q => by rw [upd_ne (at_ne ea q exo_tup), upd_ne (ne_of_none q hnd)]; exact q
    frzs := fun b o v q => by rw [upd_ne (at_ne ea q exo_frz), upd_ne (ne_of_none q hnd)]; exact q
    tbls := fun b ps q => ⟨#[], by rw [upd_ne (at_ne ea q exo_tbl), upd_ne (ne_of_none q hnd), q]; simp⟩ }
  refine wpAt_of_wpAny (wpAny_pure ⟨.non, _, rfl, e0.bare, Un1, fun b o qb => ?_, rfl, q dx hnd dne⟩)
  by_cases hb : b = a
  · subst hb
    rw [upd_same] at qb
    cases qb
    exact exo_ok hx'
  · rw [upd_ne hb] at qb
    by_cases hd : b = dx
    · subst hd
      rw [upd_same] at qb
      cases qb
      exact exd_ok hn (relO_put (fs := []) r2 fun g => True.intro)
    · rw [upd_ne hd] at qb
      exact (e0.hok b o qb).stay (fun c v hc z => ks c v (by
          rcases hc with hc | hc
          · rw [hc]
            exact hb
          · exact at_ne ea hc exo_own) z) (fun c z => by rw [upd_ne (at_ne ea z exo_own), upd_ne (ne_of_none z hnd)]; exact z) (fun c xs z => by rw [upd_ne (at_ne ea z exo_tup), upd_ne (ne_of_none z hnd)]; exact z)
end
end BX

namespace BB
open PySem PySem.Spec PyProof.Rows L2
section
variable {X : Cx} {K : PySem.W.Frag} {F F' G H : Hp} {fx : List (Nat × Addr)} {W : WX} {ρ : DE} {σ : L2.St} {pos pos' p : Pos} {e : Expr} {ml : ML} {x n : Str}
/-! ### raise X(e) -/
def sRaise (C : Addr) (ml : ML) : MS := fun ρ E => ml ρ (fun ds ρ1 => match ds with
  | [d] => E.ex C d ρ1
  | _ => False) E.ex
theorem exo_end {H1 : Hp} {a C dx : Addr} {v : V} (ha : H1 a = none) (hd : H1 dx = none) (ne : dx ≠ a) :
    upd (del (upd (upd (upd H1 a (exo a C none)) dx (exd dx [(("value" : Str), v)])) a (exo a C (some dx))) a) dx (.xd [(("value" : Str), v)]) = upd H1 dx (.xd [(("value" : Str), v)]) := by
  funext b
  by_cases h1 : b = dx
  · rw [h1, upd_same, upd_same]
  · rw [upd_ne h1, upd_ne h1]
    by_cases h2 : b = a
    · rw [h2, del_same, ha]
    · rw [del_ne h2, upd_ne h2, upd_ne h1, upd_ne h2]
theorem ss_raise {C D fI : Addr} {fd : FuncData} (xc : BX.XCls X.K D C) (iC : PySem.W.findIn X.K (.ref C) "__init__" = some (some (.ref fI))) (tI : PySem.W.typeIn X.K (.ref fI) = some (.type "function"))
    (Fo : FnOk X.prog X.w X.K X.mg X.base (L2.CX X.prog X.w) 1 fI fd ["self", "value"] (BX.spX X.K D)) (hr : Room 2 X.A) (hb : Binds X.K fd ["self", "value"] []) (hc : X.calm = true) (tk : Takes X W) (hm : X.mg x = some (.ref C)) (he : EL X fx W [e] ml)
    (hg : Gl X x := by rfl) (hdb : (x == ("__debug__" : Str)) = false := by decide) (hst : starEach [e] X.env = (false, eval e X.env) :: starEach [] X.env := by rfl) (hpl : (backTo pos (starEach [] X.env)).any (·.1) = false := by rfl) :
    SS X fx W (.Raise (some (.Call (.Name x p) [e] [] pos)) none pos') (sRaise C ml) := by
  refine ps_imp (L2.ps_raise hc tk (L2.pmk_oex (dvs := []) (ds := []) xc.ox iC tI Fo hr hb .nil passes0 hg hm he hdb hst hpl)) fun D' σ H ⟨F, G, ρ, E0, R, h, k⟩ => ⟨F, G, ρ, _, E0.ex, R, h, fun ds ρ1 h1 F1 H1 vs s1 R1 k1 => ?_, k.ex σ⟩
  match ds, h1 with
  | [d], h1 =>
    cases k1 with
    | cons k1 k2 =>
      cases k2
      rename_i v
      refine ⟨by show 1 ≤ 1000; decide, fun a ha => ⟨a, C, v, rfl, xc, upd_same, fun dx hdx ne => ?_⟩⟩
      rw [upd_ne ne] at hdx
      refine ⟨rfl, dx, [(("value" : Str), v)], upd_same, by rw [upd_ne ne, upd_same], hdx, ?_⟩
      rw [exo_end ha hdx ne]
      obtain ⟨R2, n1, n2, _⟩ := R1.new (o := .xd [(("value" : Str), v)]) hdx
      exact k.ex σ C d ρ1 h1 F1 _ v dx s1 R2 upd_same k1 n1 n2
/-! ### try: .. except D as n: .. -/
def sufE (E : ME) (i : Nat) : ME := { nx := fun ρ2 => E.nx (wipeD ρ2 [i]), rt := E.rt, bk := fun ρ2 => E.bk (wipeD ρ2 [i]), ct := fun ρ2 => E.ct (wipeD ρ2 [i]), ex := fun _ _ _ => False }
def sTry (ok : Addr → Prop) (i : Nat) (ms : MS) (msu : Addr → Addr → Addr → MS) : MS := fun ρ E => ms ρ { E with ex := fun c d ρ' => ok c ∧ ∀ a dx, msu a c dx (ρ'.set i (.fz (.xcp a dx c d))) (sufE E i) }
theorem ss_try {D : Addr} {i : Nat} {body suite : List Stmt} {b₀ : Stmt} {np : Pos} {ms : MS} {msu : Addr → Addr → Addr → MS} {ok : Addr → Prop} (hok : ∀ c, ok c → PySem.W.exmOne X.K (.ref c) (.ref D) = some true)
    (hs : X.stack = X.env :: X.outer) (hf : X.env.frame = some X.env.locals) (hN : X.N.Nodup) (hi : X.N[i]? = some n) (hln : X.env.kindOf n = some .local) (hc : Names X x (.ref D)) (tk : Takes X W) (hfx : fxOk fx i = true)
    (hb : ∀ (W' : WX) (pn : List (Addr × Obj)) (xe : Value → Shared → Prop), Takes (X.tr pn xe) W' → SB (X.tr pn xe) fx W' body ms)
    (hsu : ∀ (a c dx : Addr) (oe : Obj) (pn : List (Addr × Obj)), ok c → Zc (.ref c) (some dx) oe → (∃ vs, oe.data = .fields vs) → SB (X.suite a ((a, oe) :: pn)) fx (fun _ _ _ _ => False) (b₀ :: suite) (msu a c dx)) :
    SS X fx W (.Try body [.ExceptHandler (some (.Name x np)) (some n) (b₀ :: suite) pos'] [] [] pos) (sTry ok i ms msu) := by
  refine ps_imp (L2.ps_try_as (tb := fun W' => tSS X.K fx W' ms) (ts := fun a cls d D' σ' H' => ∃ c dx, cls = .ref c ∧ d = some dx ∧ ok c ∧ tSS X.K fx (fun _ _ _ _ => False) (msu a c dx) D' σ' H') hs hf hN hi hln hc tk (fun W' pn xe t _ => hb W' pn xe t) ?_) ?_
  · intro a oe cls d pn hz hv
    refine ⟨fun pins s σ H D' I h => ?_⟩
    obtain ⟨c, dx, rfl, rfl, ho, h⟩ := h
    exact (hsu a c dx oe pn ho hz hv).run pins s σ H D' I h
  · rintro D' σ H ⟨F, G, ρ, E0, R, h, k⟩
    refine ⟨F, G, ρ, _, R, h, ⟨k.nx, k.rt, k.bk, k.ct, fun σ' => ?_⟩⟩
    rintro c d ρ' ⟨ho, hx⟩ F' H' v dx sm R' hd dd hF hG
    refine ⟨true, hok c ho, fun _ a ha => ?_, fun z => by cases z⟩
    have hn : ∀ j, ¬ Owns ρ' σ' j dx := fun j hj => by
      obtain ⟨o, h2, _, _, oc⟩ := R'.ownH hj
      rw [hd] at h2
      cases h2
      exact oc.elim
    obtain ⟨sm2, R2⟩ := R'.frz hF hG hd hn
    have R3 := R2.setFz (i := i) (v := .ref a) (d := .xcp a dx c d) (.xcp upd_same (dd.mono sm2)) hfx
    refine ⟨c, dx, rfl, rfl, ho, _, G, _, _, R3, hx a dx, ⟨fun ρ2 z F3 H3 σ3 s3 Q3 => ?_, fun r ρ2 z F3 H3 σ3 v3 s3 Q3 kv => k.rt r ρ2 z F3 H3 σ3 v3 ((sm.trans sm2).trans s3) Q3 kv, fun ρ2 z F3 H3 σ3 s3 Q3 => ?_, fun ρ2 z F3 H3 σ3 s3 Q3 => ?_, fun σ3 => xok0 fun _ _ _ z => z⟩⟩
    · exact k.nx _ z F3 H3 _ ((sm.trans sm2).trans s3) (Q3.wipe (vs := [i]) (by simp [hfx]))
    · exact k.bk _ z F3 H3 _ ((sm.trans sm2).trans s3) (Q3.wipe (vs := [i]) (by simp [hfx]))
    · exact k.ct _ z F3 H3 _ ((sm.trans sm2).trans s3) (Q3.wipe (vs := [i]) (by simp [hfx]))
end
end BB

namespace BX
open PySem PySem.Spec PyProof.Rows L2
/-- what the class at c must say, so that isinstance asks its instances rightly -/
structure XIs (K : PySem.W.Frag) (c : Addr) : Prop where
  cl : (PySem.W.clsIn K c).isSome = true
  ga : PySem.W.findIn K (.ref c) "__getattribute__" = some (some (.builtin "BaseException.__getattribute__"))
  gg : PySem.W.findIn K (.ref c) "__getattr__" = some none
  ex : PySem.W.subIn K (.ref c) (.type "BaseException") = some true
  ca : PySem.W.findIn K (.ref c) "__class__" = some (some (.builtin "object.__class__"))
  sp : PySem.W.specialIn K (.builtin "object.__class__") "__get__" = some (some (.builtin "getset_descriptor.__get__"))
  tk : PySem.W.takesIn K (.builtin "object.__class__") = some true
  ob : PySem.W.mroIn K c (.type "object") = some true
  hd : PySem.W.hasDictIn K c = true
  va : PySem.W.findIn K (.ref c) "value" = some none
section
variable {X : Cx} {a c dx : Addr} {oe : Obj}
theorem inst_of {pins : List (Addr × Obj)} {s : Shared} {σ : L2.St} {H : Hp} {fs : List (Str × V)} (hz : Zc (.ref c) (some dx) oe) (hf : ∃ vs, oe.data = .fields vs) (hp : (a, oe) ∈ X.pn) (I : Inv X pins σ H s) (hd : H dx = some (.xd fs)) :
    ∃ od, PySem.W.InstAt s.heap a oe c (some od) := by
  obtain ⟨ha, _⟩ := I.pin (a, oe) (List.mem_append_left _ hp)
  obtain ⟨vs, hv⟩ := hf
  have hx : ObjOk X.prog X.w H s.heap dx (.xd fs) := I.hok dx _ hd
  obtain ⟨mA, hns, hr⟩ := hx
  obtain ⟨od, ho, hl⟩ := lookIn_ns hns
  exact ⟨od, ha, hz.1, by unfold PySem.W.notCls; rw [hv] <;> rfl, by rw [hz.2]; exact ho⟩
def rIsX (K : PySem.W.Frag) (c a dx : Addr) : List V → Hp → VK → Prop := fun xs H Q => ∃ (t : V) (u : Value) (b : Bool) (fs : List (Str × V)), xs = [.ref a, t] ∧ H dx = some (.xd fs) ∧ ClsV t u ∧ PySem.W.kitOne K (.ref c) u = some b ∧ Q (.bl b) H
def rIsXT (K : PySem.W.Frag) (c a dx : Addr) : List V → Hp → VK → Prop := fun xs H Q => ∃ (tp : Addr) (cs : List V) (us : List Value) (b : Bool) (fs : List (Str × V)), xs = [.ref a, .ref tp] ∧ H dx = some (.xd fs) ∧ H tp = some (.tup cs) ∧ Paired ClsV cs us ∧ PySem.W.kitAny K (.ref c) us = some b ∧ Q (.bl b) H
theorem call_isX (C : XIs X.K c) (hz : Zc (.ref c) (some dx) oe) (hf : ∃ vs, oe.data = .fields vs) (hp : (a, oe) ∈ X.pn) : CallR X (.builtin "isinstance") (rIsX X.K c a dx) := by
  intro pins s σ H xs us Q I r h
  obtain ⟨t, u, b, fs, rfl, hd, k, e, q⟩ := h
  obtain ⟨u1, u2, rfl, r1, r2⟩ := vals2 r
  have e2 := k.eq r2
  subst e2
  cases (show u1 = Value.ref a from r1)
  obtain ⟨od, J⟩ := inst_of hz hf hp I hd
  exact PySem.W.kia_one (PySem.W.kitx_exc C.cl C.ga C.gg C.ex C.ca C.sp C.tk C.ob) I.kIn J e (fun z => nomatch z) fun tk => ⟨.bl b, H, I.tok tk, rfl, q⟩
theorem call_isXT (C : XIs X.K c) (hz : Zc (.ref c) (some dx) oe) (hf : ∃ vs, oe.data = .fields vs) (hp : (a, oe) ∈ X.pn) : CallR X (.builtin "isinstance") (rIsXT X.K c a dx) := by
  intro pins s σ H xs us Q I r h
  obtain ⟨tp, cs, ws, b, fs, rfl, hd, hT, k, e, q⟩ := h
  obtain ⟨u1, u2, rfl, r1, r2⟩ := vals2 r
  cases (show u1 = Value.ref a from r1)
  cases (show u2 = Value.ref tp from r2)
  obtain ⟨od, J⟩ := inst_of hz hf hp I hd
  obtain ⟨_, its, rv, o, h1, h2, n, h3⟩ := (show ObjOk X.prog X.w H s.heap tp (.tup cs) from I.hok tp _ hT)
  have e3 := ClsV.all k rv
  subst e3
  obtain ⟨oc, od', dt, sl⟩ := o
  simp only at h2 h3
  subst h2 h3
  exact PySem.W.kia_tup (PySem.W.kitx_exc C.cl C.ga C.gg C.ex C.ca C.sp C.tk C.ob) I.kIn J h1 e (fun z => nomatch z) fun tk => ⟨.bl b, H, I.tok tk, rfl, q⟩
end
end BX
namespace BB
open PySem PySem.Spec PyProof.Rows L2
section
variable {X : Cx} {K : PySem.W.Frag} {F G H : Hp} {fx : List (Nat × Addr)} {W : WX} {ρ : DE} {σ : L2.St} {pos p q : Pos} {e ec : Expr} {m : M} {a c dx : Addr} {oe : Obj}
/-- the exception that a suite holds -/
def onXc (a dx : Addr) (o : Option D) (k : D → Prop) : Prop := match o with
  | some (.xcp a' dx' _ d) => (a' = a ∧ dx' = dx) ∧ k d
  | _ => False
theorem onXc_some {o : Option D} {k : D → Prop} (h : onXc a dx o k) : ∃ c d, o = some (.xcp a dx c d) ∧ k d := by
  unfold onXc at h
  split at h
  · obtain ⟨⟨rfl, rfl⟩, h⟩ := h
    exact ⟨_, _, rfl, h⟩
  · exact h.elim
theorem Top.xcp_inv {v : V} {d : D} (h : Top K F H v (.xcp a dx c d)) : ∃ u, v = .ref a ∧ F dx = some (.xd [(("value" : Str), u)]) ∧ Dat K F u d := by
  cases h with
  | dat h => cases h with | xcp h1 h2 => exact ⟨_, rfl, h1, h2⟩
/-- e.value -/
def mXval (a dx : Addr) (m : M) : M := fun ρ Q X => m ρ (fun r ρ1 => onXc a dx (r.at ρ1) fun d => Q (.v d) ρ1) X
theorem es_xval (T : BX.XIs X.K c) (hz : Zc (.ref c) (some dx) oe) (hf : ∃ vs, oe.data = .fields vs) (he : ES X fx W e m) (hp : (a, oe) ∈ X.pn := by exact List.mem_cons_self) (hb : attributeBase e "value" X.env (eval e X.env) = eval e X.env := by rfl) :
    ES X fx W (.Attribute e "value" pos) (mXval a dx m) := by
  refine ⟨fun pins s σ H Q I ⟨F, G, ρ, Q0, X0, R, h, q, x⟩ => attr_of hb (thn (he.run pins s σ H (fun v1 H1 => ∃ r ρ1 F1, onXc a dx (r.at ρ1) (fun d => Q0 (.v d) ρ1) ∧ Same F F1 ∧ Rep X.K F1 G H1 fx ρ1 σ ∧ RvOk X.K F1 G H1 ρ1 σ r v1) I ⟨F, G, ρ, _, X0, R, h, fun r ρ1 h1 F1 H1 v1 s1 R1 k1 => ⟨r, ρ1, F1, h1, s1, R1, k1⟩, x⟩) fun u s1 hh => ?_)⟩
  obtain ⟨v1, H1, I1, rx, r, ρ1, F1, h1, sm, R1, k1⟩ := hh
  obtain ⟨c', d, e1, h1⟩ := onXc_some h1
  obtain ⟨y, rfl, g1, g2⟩ := (k1.top R1 e1).xcp_inv
  obtain rfl : u = Value.ref a := rx
  have hx : H1 dx = some (.xd [(("value" : Str), y)]) := R1.fh.at g1 (fun _ z => by cases z)
  obtain ⟨ha, _⟩ := I1.pin (a, oe) (List.mem_append_left _ hp)
  obtain ⟨vs, hd⟩ := hf
  obtain ⟨mA, hns, hr⟩ := (show ObjOk X.prog X.w H1 s1.heap dx (.xd _) from I1.hok dx _ hx)
  obtain ⟨od, ho, hl⟩ := lookIn_ns hns
  obtain ⟨u, hu, ru⟩ := RelO.some_of (v := y) (o := mA "value") (hr "value")
  have J : PySem.W.InstAt s1.heap a oe c (some od) := ⟨ha, hz.1, by unfold PySem.W.notCls; rw [hd] <;> rfl, by rw [hz.2]; exact ho⟩
  exact HandSPX.exc_get I1.kIn J T.ga T.gg T.ex (PySem.W.findObj_own T.hd T.va rfl (by rw [hl, hu])) (handed_of ru) ⟨y, H1, I1.tok _, ru, q _ _ h1 F1 H1 y sm R1 g2⟩
/-- isinstance(e, C) -/
def mIsX (K : PySem.W.Frag) (c a dx : Addr) (u : Value) (m : M) : M := fun ρ Q X => m ρ (fun r ρ1 => onXc a dx (r.at ρ1) fun _ => ∃ b, PySem.W.kitOne K (.ref c) u = some b ∧ Q (.v (.bl b)) ρ1) X
theorem es_isX {cv : V} {u : Value} (T : BX.XIs K c) (hz : Zc (.ref c) (some dx) oe) (hf : ∃ vs, oe.data = .fields vs) (hm : X.mg "isinstance" = none) (hcv : ClsV cv u) (he : ES X fx W e m) (hc : PE X ec (tC cv))
    (hK : X.K = K := by rfl) (hp : (a, oe) ∈ X.pn := by exact List.mem_cons_self) (hg : Gl X "isinstance" := by rfl) (h1 : starEach [e, ec] X.env = (false, eval e X.env) :: starEach [ec] X.env := by rfl) (h2 : starEach [ec] X.env = (false, eval ec X.env) :: starEach [] X.env := by rfl) (hpl : (backTo pos (starEach [ec] X.env)).any (·.1) = false := by rfl) :
    ES X fx W (.Call (.Name "isinstance" p) [e, ec] [] pos) (mIsX K c a dx u m) := by
  subst hK
  refine pe_imp (pe_callB (BX.call_isX T hz hf hp) hg hm (by boot_by_name) (pa_cons he (pa_cons hc pa_nil h2) h1) (by decide) (by decide) h1 hpl) fun σ H Q ⟨F, G, ρ, Q0, X0, R, h, q, x⟩ => ⟨F, G, ρ, _, X0, R, h, fun r ρ1 g1 F1 H1 v1 s1 R1 k1 => ?_, x⟩
  obtain ⟨c', d, e1, b, hb, g1⟩ := onXc_some g1
  obtain ⟨w, rfl, f1, f2⟩ := (k1.top R1 e1).xcp_inv
  exact ⟨cv, u, b, _, rfl, R1.fh.at f1 (fun _ z => by cases z), hcv, hb, q _ _ g1 F1 H1 _ s1 R1 (.bl _)⟩
/-- isinstance(e, (C, ..)) -/
def mIsXT (K : PySem.W.Frag) (c a dx : Addr) (us : List Value) (m : M) : M := fun ρ Q X => m ρ (fun r ρ1 => onXc a dx (r.at ρ1) fun _ => ∃ b, PySem.W.kitAny K (.ref c) us = some b ∧ Q (.v (.bl b)) ρ1) X
/-- written classes -/
def tCs : List V → TA
  | [] => tNil
  | v :: vs => tCons (tC v) (tCs vs)
theorem tCs_at : ∀ (vs : List V) (σ : L2.St) (H : Hp) (Q : List V → Hp → Prop), Q vs H → tCs vs σ H Q
  | [], σ, H, Q, h => h
  | v :: vs, σ, H, Q, h => tCs_at vs σ H (fun xs H' => Q (v :: xs) H') h
theorem es_isXT {cs : List V} {us : List Value} {els : List Expr} {tp : Pos} {x1 : Nat} (T : BX.XIs K c) (hz : Zc (.ref c) (some dx) oe) (hf : ∃ vs, oe.data = .fields vs) (hm : X.mg "isinstance" = none) (hcv : Paired ClsV cs us) (hl : cs.length ≤ 1000) (he : ES X fx W e m) (hc : PA X els (tCs cs))
    (hK : X.K = K := by rfl) (hp : (a, oe) ∈ X.pn := by exact List.mem_cons_self) (hg : Gl X "isinstance" := by rfl) (h1 : starEach [e, .Tuple els x1 tp] X.env = (false, eval e X.env) :: starEach [.Tuple els x1 tp] X.env := by rfl) (h2 : starEach [.Tuple els x1 tp] X.env = (false, eval (.Tuple els x1 tp) X.env) :: starEach [] X.env := by rfl) (hpl : (backTo pos (starEach [.Tuple els x1 tp] X.env)).any (·.1) = false := by rfl) :
    ES X fx W (.Call (.Name "isinstance" p) [e, .Tuple els x1 tp] [] pos) (mIsXT K c a dx us m) := by
  subst hK
  refine pe_imp (pe_callB (BX.call_isXT T hz hf hp) hg hm (by boot_by_name) (pa_cons he (pa_cons (pe_tup hc) pa_nil h2) h1) (by decide) (by decide) h1 hpl) fun σ H Q ⟨F, G, ρ, Q0, X0, R, h, q, x⟩ => ⟨F, G, ρ, _, X0, R, h, fun r ρ1 g1 F1 H1 v1 s1 R1 k1 => ?_, x⟩
  obtain ⟨c', d, e1, b, hb, g1⟩ := onXc_some g1
  obtain ⟨w, rfl, f1, f2⟩ := (k1.top R1 e1).xcp_inv
  refine tCs_at cs σ H1 _ ⟨by rw [sizeLine_eq]; omega, fun tpa hp => ?_⟩
  obtain ⟨R2, n1, n2, n3⟩ := R1.new (o := .tup cs) hp
  refine ⟨tpa, cs, us, b, _, rfl, by rw [upd_ne (fun z => by rw [z, n1] at f1; cases f1)]; exact R1.fh.at f1 (fun _ z => by cases z), upd_same, hcv, hb, q _ _ g1 F1 _ _ s1 R2 (.bl _)⟩
end
end BB

namespace BB
open PySem PySem.Spec PyProof.Rows L2
section
variable {X : Cx} {fx : List (Nat × Addr)} {W : WX} {pos : Pos} {a b : Expr} {ma mb : M}
/-- a text, once or not at all -/
def rMulS : R2 := fun x y H Q => ∃ (z : Str) (n : Int), x = .str z ∧ y = .int n ∧ (n = 0 ∨ n = 1) ∧ Q (.str (if n = 0 then "" else z)) H
theorem op_mulS : OpR X (binaryOp .Mult) rMulS := fun pins s σ H x y v u Q I rx ry ⟨z, n, h1, h2, h3, q⟩ => by
  subst h1 h2
  obtain ⟨t, rfl⟩ := rx
  obtain ⟨t', rfl⟩ := ry
  rcases h3 with rfl | rfl
  · exact PySem.P.mul_str_none (by decide) (by decide) ⟨.str "", H, I.tok _, ⟨_, rfl⟩, q⟩
  · exact PySem.P.mul_str (by decide) (fun _ h => by simp at h) (fun _ h => by simp at h) (by
      rw [if_neg (show ¬ ((1 : Int) < 1) by decide), if_pos (show ((1 : Int) == 1 || z.length == 0) = true from rfl)]
      exact ⟨.str z, H, I, ⟨_, rfl⟩, q⟩)
def fMulS : F2 := fun d e Q => match d, e with
  | .str z, .int n => (n = 0 ∨ n = 1) ∧ Q (.v (.str (if n = 0 then "" else z)))
  | _, _ => False
theorem snd_mulS {K : PySem.W.Frag} : Snd2 K rMulS fMulS where
  ok := by
    intro F G H fx ρ σ x y d e Q0 Q R h1 h2 hf q
    unfold fMulS at hf
    split at hf
    · rw [h1.str_inv, h2.int_inv]
      exact ⟨_, _, rfl, rfl, hf.1, q _ hf.2 F H _ (Same.refl F) R (.str _)⟩
    · exact hf.elim
theorem es_mulS (ha : ES X fx W a ma) (hb : ES X fx W b mb) : ES X fx W (.BinOp a .Mult b pos) (mOp2 fMulS ma mb) := pe_imp (pe_op op_mulS ha hb) fun _ _ _ h => ts_op2 snd_mulS h
theorem pe_clsO {x : Str} {u : Addr} {p : Pos} (hm : X.mg x = some (.ref u)) (hg : Gl X x := by rfl) (hd : (x == ("__debug__" : Str)) = false := by decide) : PE X (.Name x p) (tC (.ref u)) := pe_glob hg hm rfl hd
theorem pe_clsV {p : Pos} (hm : X.mg "ValueError" = none) (hg : Gl X "ValueError" := by rfl) : PE X (.Name "ValueError" p) (tC (.ty "ValueError")) := pe_bltn hg hm (by boot_by_name) rfl (by decide)
/-- the suite of the first try statement -/
def suOf : List Stmt → List Stmt
  | .Try _ (.ExceptHandler _ _ su _ :: _) _ _ _ :: _ => su
  | _ :: r => suOf r
  | [] => []
end
end BB

namespace BX
open PySem PySem.Spec PyProof.Rows L2
open PySem.W (kxs_mw ksEnv ksFn ks_superIn)
/-! ### what a raised class must say, gathered for the head -/
section
variable {K : PySem.W.Frag} {D C N : Addr} {nm q : Str} {bs bm : List Value} {sn : List Str} {sub : List Value} {ab : Bool} {col : Option Bool} {dd : Option Addr} {k0 k1 k2 k3 k5 : Option Value}
theorem xcls_mk (lk : K.lookup C = some (excClassObj nm q C N bs bm true sn sub ab col dd k0 k1 k2 k3 k5 "ValueError.__new__")) (hbm : PySem.HandSPX.refsVE bm = true)
    (sa : PySem.W.findIn K (.ref C) "__setattr__" = some (some (.builtin "object.__setattr__"))) (ex : PySem.W.subIn K (.ref C) (.type "BaseException") = some true) (ty : PySem.W.typeIn K (.ref C) = some (.type "type"))
    (kp : PySem.W.keepIn K (.ref C) = true) (va : PySem.W.findIn K (.ref C) "value" = some none) (mr : PySem.W.mroIn K C (.ref D) = some true)
    (su : ks_superIn K C D "__init__" = some (some (.builtin "ValueError.__init__"))) (ve : PySem.W.subIn K (.ref C) (.type "ValueError") = some true) : XCls K D C :=
  ⟨⟨⟨nm, q, N, bs, bm, sn, sub, ab, col, dd, k0, k1, k2, k3, k5, lk, hbm⟩, sa, ex, ty, kp⟩, va, mr, su, ve⟩
theorem clsIn_of (lk : K.lookup C = some (excClassObj nm q C N bs bm true sn sub ab col dd k0 k1 k2 k3 k5 "ValueError.__new__")) :
    PySem.W.clsIn K C = some { name := nm, bases := bs, mro := .ref C :: bm, ns := N, qualname := q, hasDict := true, slotNames := sn, subclasses := sub, abstract := ab, collection := col, hasDel := false } := by
  unfold PySem.W.clsIn; rw [lk] <;> rfl
theorem xis_mk (lk : K.lookup C = some (excClassObj nm q C N bs bm true sn sub ab col dd k0 k1 k2 k3 k5 "ValueError.__new__"))
    (ga : PySem.W.findIn K (.ref C) "__getattribute__" = some (some (.builtin "BaseException.__getattribute__"))) (gg : PySem.W.findIn K (.ref C) "__getattr__" = some none)
    (ex : PySem.W.subIn K (.ref C) (.type "BaseException") = some true) (ca : PySem.W.findIn K (.ref C) "__class__" = some (some (.builtin "object.__class__")))
    (sp : PySem.W.specialIn K (.builtin "object.__class__") "__get__" = some (some (.builtin "getset_descriptor.__get__"))) (tk : PySem.W.takesIn K (.builtin "object.__class__") = some true)
    (ob : PySem.W.mroIn K C (.type "object") = some true) (hd : PySem.W.hasDictIn K C = true) (va : PySem.W.findIn K (.ref C) "value" = some none) : XIs K C :=
  ⟨by rw [clsIn_of lk] <;> rfl, ga, gg, ex, ca, sp, tk, ob, hd, va⟩
end
/-- what a program must say for D.__init__'s super: R is the program as given -/
class OkP (R P : Program) : Prop where
  fil : P.main.file = R.main.file
  top : (P.main.scope.names.lookup ("super" : Str)).isSome = false
theorem okp_file {R P : Program} [h : OkP R P] {f : Str} (e : ((R.main.file : Str) == f) = true) : ((P.main.file : Str) == f) = true := by
  rw [h.fil]
  exact e
/-- D.__init__ takes self and value -/
theorem xb_mk {K : PySem.W.Frag} {fd : FuncData} (h : ∀ a b : Value, bindArgs fd ⟨[a, b], []⟩ = pure [(("self" : Str), a), (("value" : Str), b)]) : Binds K fd ["self", "value"] [] :=
  Binds.all fun us hl => match us, hl with | [a, b], _ => h a b
end BX

namespace BX
open PySem PySem.W PySem.Spec PyProof.Rows L2 PySem.Builtin
section
variable {prog : Program} {w : World} {A A₀ : Around} {E : Value → Shared → Prop} {s : Shared} {K : Frag} {x C L f : Addr} {h₀ : Heap} {m : Str → Option Value} {ox : Obj} {od : Option Obj} {name : Str} {b tb : Value}
theorem ifBound_B {M : Model} {id : String} {args : List Value} {Q : Option Value → Shared → Prop} (X : K.In s.heap) (I : InstAt s.heap x ox C od) (hs : findIn K (.ref C) name = some (some (.builtin id))) (hb : ∀ self, bindSpecial (.builtin id) self = pure (.builtin id, [self]))
    (h : wpAny M A (call (.builtin id) (.ref x :: args)) (fun v => Q (some v)) E s) : wpAny M A (callSpecialIfBound? (.ref x) name args) Q E s := by
  simp only [callSpecialIfBound?, bindSpecialIfBound?]
  refine wpAny_holding (wpAny_bind (wpAny_bind (wpAny_bind (I.type.here ((looks_findIn X hs).here ?_)))))
  refine wpAny_bind (wpAny_askSetting (wpAny_ite ?_))
  have fin : wpAny M A (call (.builtin id) ([.ref x] ++ args) >>= fun v => pure (some v)) Q E s := wpAny_bind (wpAny_mono h (fun v s' h' => wpAny_pure h') fun _ _ h' => h')
  simp only [hb]
  split
  · exact wpAny_bind (wpAny_pure (wpAny_pure (by exact fin)))
  · exact wpAny_tryCatch (wpAny_bind (wpAny_pure (wpAny_pure (by exact fin))))
theorem ne_call {Q : Fin → Shared → Prop} (hu : A.units < cLine) (X : K.In s.heap) (I : InstAt s.heap x ox C od) (hs : findIn K (.ref C) "__eq__" = some (some (.ref f))) (hf : isFn K (.ref f) = true)
    (h : wpAny (model prog w) A (call (.ref f) [.ref x, b]) (fun v s' => ∃ r, v = .bool r ∧ Q (.done (.ret (.bool (!r)))) s') E s) :
    wpAny (model prog w) A (Builtin.«object.__ne__» ⟨[.ref x, b], []⟩) Q E s := by
  unfold Builtin.«object.__ne__»
  repeat (first
    | with_reducible refine wpAny_cRoomFor hu ?_
    | (refine wpAny_bind (m := callSpecialIfBound? (.ref x) (Str.ofString "__eq__") [b])
        (ifBound_K X I hs hf (wpAny_mono h (fun r s' hr => by
          obtain ⟨b, rfl, hq⟩ := hr
          repeat (first | exact hq | exact wpAny_pure hq | exact wpAny_truthy_bool hq | (refine wpAny_bind (m := truthy (.bool _)) (wpAny_truthy_bool ?_)) | wp_step)) fun _ _ e => e)))
    | wp_step)
theorem ne_check {id owner n : String} {rest : List Value} {Q : Unit → Shared → Prop} {M : Model} (hk : builtinKind id = some .slot) (hsp : splitId id = some (owner, n))
    (ha : argsOk id ⟨.ref x :: rest, []⟩) (X : K.In s.heap) (I : InstAt s.heap x ox C od) (hob : mroIn K C (.type owner) = some true) (hq : Q () s) :
    wpAny M A (checkBuiltinCall id ⟨.ref x :: rest, []⟩) Q E s := by
  simp only [checkBuiltinCall, hk, hsp]
  refine wpAny_bind ?_
  unfold isInstance
  refine wpAny_bind (I.type.here ((looks_mroIn X hob).here ?_))
  repeat (first | wp_step)
  cases hsig : Manifest.signature? id with
  | none => exact wpAny_pure hq
  | some sig =>
    simp only [argsOk, hsig] at ha
    have h2 : Bind.checkArgs id sig ⟨.ref x :: rest, []⟩ = pure () := ha
    show wpAny M A (Bind.checkArgs id sig ⟨.ref x :: rest, []⟩) Q E _
    rw [h2]; exact wpAny_pure hq
theorem ne_K {Q : Value → Shared → Prop} (hu : A.units + 1 < cLine) (F : Fr h₀ L s.heap m) (X₀ : K.In h₀) (I : InstAt s.heap x ox C od) (hb : Looks (model prog w) s.heap (typeOf b) tb) (hn : notFirst K C tb = true)
    (hs : findIn K (.ref C) "__eq__" = some (some (.ref f))) (hf : isFn K (.ref f) = true) (hne : findIn K (.ref C) "__ne__" = some (some (.builtin "object.__ne__"))) (hob : mroIn K C (.type "object") = some true)
    (h : wpAny (model prog w) A.in1 (call (.ref f) [.ref x, b]) (fun v s' => ∃ r, v = .bool r ∧ Q (.bool (!r)) s') E s) : wpAny (model prog w) A (richCompare .NotEq (.ref x) b) Q E s := by
  have X := X₀.keeps F.keep
  have one : wpAny (model prog w) A (tryCompare (.ref x) "__ne__" b) (fun r s' => ∃ v, r = some v ∧ Q v s') E s := by
    unfold tryCompare
    refine wpAny_bind (ifBound_B X I hne PySem.F.cmp_object.ne.bind (wpAny_call (codeAny_call_builtin PySem.F.cmp_object.ne.plain PySem.F.cmpEntry_ne
      (ne_check PySem.F.cmpKind_ne PySem.F.cmpSplit_ne (PySem.F.cmpArgs_ne _ _) X I hob (ne_call (A := A.in1) (Nat.lt_of_le_of_lt (Nat.le_refl _) hu) X I hs hf (wpAny_mono h (fun v s' hv => ?_) fun _ _ e => e))))))
    obtain ⟨r, rfl, hq⟩ := hv
    exact ⟨r, rfl, wpAny_pure ⟨_, rfl, hq⟩⟩
  unfold richCompare
  simp only [oneThing_ref]
  refine wpAny_holding (wpAny_bind (wpAny_cRoomFor (Nat.lt_of_succ_lt hu) ?_))
  refine wpAny_bind (I.type.here (wpAny_bind (hb.here ?_)))
  split
  · rename_i q
    have e : subIn K tb (.ref C) = some false := by
      rcases Bool.or_eq_true_iff.mp hn with e | e
      · rw [beq_iff_eq.mp e] at q; simp at q
      · exact beq_iff_eq.mp e
    refine wpAny_bind ((looks_subIn X e).here ?_)
    simp only [Bool.false_eq_true, if_false]
    refine wpAny_bind (wpAny_mono (by exact one) (fun r s' z => ?_) fun _ _ e => e)
    obtain ⟨v, rfl, hq⟩ := z
    exact wpAny_pure hq
  · refine wpAny_bind (wpAny_pure ?_)
    simp only [Bool.false_eq_true, if_false]
    refine wpAny_bind (wpAny_mono (by exact one) (fun r s' z => ?_) fun _ _ e => e)
    obtain ⟨v, rfl, hq⟩ := z
    exact wpAny_pure hq
end
end BX
namespace BB
open PySem PySem.Spec PyProof.Rows L2
/-- what the class at C must say for == and isinstance over data -/
structure OCls (K : PySem.W.Frag) (C : Addr) : Prop where
  cl : Cls K C
  ca : PySem.W.findIn K (.ref C) "__class__" = some (some (.builtin "object.__class__"))
  cn : PySem.W.specialIn K (.builtin "object.__class__") "__get__" = some (some (.builtin "getset_descriptor.__get__"))
  ct : PySem.W.takesIn K (.builtin "object.__class__") = some true
  cm : PySem.W.mroIn K C (.type "object") = some true
  ty : PySem.W.typeIn K (.ref C) = some (.type "type")
/-- the class at C has an own == at g -/
structure OEq (K : PySem.W.Frag) (C g : Addr) : Prop where
  oc : OCls K C
  eq : PySem.W.findIn K (.ref C) "__eq__" = some (some (.ref g))
  fn : PySem.W.isFn K (.ref g) = true
  ne : PySem.W.findIn K (.ref C) "__ne__" = some (some (.builtin "object.__ne__"))
theorem OCls.ic {K : PySem.W.Frag} {C : Addr} (h : OCls K C) : (PySem.W.clsIn K C).isSome = true := by
  have e := h.cm
  unfold PySem.W.mroIn at e
  obtain ⟨cd, a, _⟩ := Option.bind_eq_some_iff.mp e
  rw [a]; rfl
/-- the type of data -/
def D.ty : D → Value
  | .non => .type "NoneType"
  | .bl _ => .type "bool"
  | .int _ => .type "int"
  | .str _ => .type "str"
  | .lst _ => .type "list"
  | .tup _ => .type "tuple"
  | .ins c _ => .ref c
  | .scr _ => .type "list"
  | .dic _ => .type "dict"
  | .xcp _ _ c _ => .ref c
  | .adr _ => .none
/-- data of no known type -/
def D.odd : D → Bool
  | .xcp _ _ _ _ => true
  | .adr _ => true
  | _ => false
/-- isinstance(d, C) says b -/
def IsB (K : PySem.W.Frag) (C : Addr) (d : D) (b : Bool) : Prop := match d with
  | .ins c _ => OCls K c ∧ PySem.W.kitOne K (.ref c) (.ref C) = some b
  | .xcp _ _ _ _ => False
  | .adr _ => False
  | _ => b = false
/-- d's class is none below C -/
def NoBelow (K : PySem.W.Frag) (C : Addr) (d : D) : Prop := match d with
  | .ins c _ => OCls K c ∧ PySem.W.notFirst K C (.ref c) = true
  | .xcp _ _ _ _ => False
  | .adr _ => False
  | _ => True
theorem sub_ty {K : PySem.W.Frag} {T : String} {C : Addr} (h : (PySem.fastFind? T).isSome = true) : PySem.W.subIn K (.type T) (.ref C) = some false := by
  obtain ⟨x, hx⟩ := Option.isSome_iff_exists.mp h
  show (PySem.fastBuiltinMro T).map (·.contains (.ref C)) = some false
  unfold PySem.fastBuiltinMro
  rw [hx]
  simp only [Option.map_some, Option.some.injEq]
  rw [List.contains_eq_any_beq]
  simp [List.any_map]
theorem kit_ty0 {K : PySem.W.Frag} {T : String} {C : Addr} (oc : OCls K C) (h : (PySem.fastFind? T).isSome = true) : PySem.W.kitOne K (.type T) (.ref C) = some false := by
  unfold PySem.W.kitOne
  rw [if_neg (by simp)]
  show (if ((PySem.W.clsIn K C).isSome && PySem.W.typeIn K (.ref C) == some (.type "type")) = true then PySem.W.subIn K (.type T) (.ref C) else none) = some false
  rw [oc.ic, oc.ty, sub_ty h]
  simp
section
variable {X : Cx} {K : PySem.W.Frag} {F F' G H H' : Hp} {fx : List (Nat × Addr)} {W : WX} {ρ ρ' ρ1 : DE} {σ : L2.St} {pos p q : Pos} {e a b ec : Expr} {m ma mb : M} {v : V} {d : D} {C g : Addr}
theorem seqT_ty {x : Addr} {vs : List V} (h : SqT K H x vs) : TyX K H (.ref x) (.type "tuple") := by
  rcases h with (h | ⟨o, h⟩) | h
  · exact .base (.tup h)
  · exact .fTuple h
  · obtain ⟨o, its, n, h, c, _⟩ := h
    exact .kTuple h c
theorem seqL_ty {x : Addr} {vs : List V} (h : SqL K H x vs) : TyX K H (.ref x) (.type "list") := by
  rcases h with (h | ⟨o, h⟩) | h
  · exact .base (.lst h)
  · exact .base (.frz h)
  · obtain ⟨o, its, n, h, c, _⟩ := h
    exact .kList h c
theorem ins_ty {x c dx : Addr} {vs : List (Str × V)} (oc : OCls K c) (h : H x = some (.ins c dx vs)) : TyX K H (.ref x) (.ref c) := .base (.ins h oc.cl oc.ca oc.cn oc.ct oc.cm)
theorem Top.ty (R : Rep K F G H fx ρ σ) (h : Top K F H v d) (ok : ∀ c fs, d = .ins c fs → OCls K c) (nx : d.odd = false) : TyX K H v d.ty := by
  cases h with
  | dat h =>
    cases h with
    | non => exact .base .non
    | bl b => exact .base (.bl b)
    | int b => exact .base (.int b)
    | str b => exact .base (.str b)
    | lst h _ => exact .base (.lst (R.fh.lst h))
    | tup h _ => exact seqT_ty (R.fh.sqT h)
    | ins h _ => exact ins_ty (ok _ _ rfl) (R.fh.ins h)
    | scr h _ => exact seqL_ty (R.fh.seq h)
    | dic h _ =>
      rcases R.fh.dic h with z | ⟨o, z⟩
      · exact .base (.dK z)
      · exact .fDict z
    | xcp _ _ => cases nx
    | adr _ => cases nx
  | lst h _ => exact .base (.lst h)
  | ins h _ => exact ins_ty (ok _ _ rfl) h
  | dic h _ =>
    rcases h with z | ⟨o, z⟩
    · exact .base (.dK z)
    · exact .fDict z
theorem IsB.ok {b : Bool} (h : IsB K C d b) (oc : OCls K C) : (∀ c fs, d = .ins c fs → OCls K c) ∧ d.odd = false ∧ PySem.W.kitOne K d.ty (.ref C) = some b := by
  refine ⟨fun c fs e => ?_, ?_, ?_⟩
  · subst e; exact h.1
  · cases d <;> first | rfl | exact h.elim
  · cases d <;> first | (obtain rfl : b = false := h; exact kit_ty0 oc (by decide +kernel)) | exact h.2 | exact h.elim
/-- isinstance(e, C) over data -/
def mIsO (K : PySem.W.Frag) (C : Addr) (m : M) : M := fun ρ Q X => m ρ (fun r ρ1 => onD (r.at ρ1) fun d => ∃ b, IsB K C d b ∧ Q (.v (.bl b)) ρ1) X
theorem es_isO (oc : OCls K C) (hm : X.mg "isinstance" = none) (he : ES X fx W e m) (hc : PE X ec (tC (.ref C)))
    (hK : X.K = K := by rfl) (hg : Gl X "isinstance" := by rfl) (h1 : starEach [e, ec] X.env = (false, eval e X.env) :: starEach [ec] X.env := by rfl) (h2 : starEach [ec] X.env = (false, eval ec X.env) :: starEach [] X.env := by rfl) (hpl : (backTo pos (starEach [ec] X.env)).any (·.1) = false := by rfl) :
    ES X fx W (.Call (.Name "isinstance" p) [e, ec] [] pos) (mIsO K C m) := by
  subst hK
  refine pe_imp (pe_callB call_isi hg hm (by boot_by_name) (pa_cons he (pa_cons hc pa_nil h2) h1) (by decide) (by decide) h1 hpl) fun σ H Q ⟨F, G, ρ, Q0, X0, R, h, q, x⟩ => ⟨F, G, ρ, _, X0, R, h, fun r ρ1 g1 F1 H1 v1 s1 R1 k1 => ?_, x⟩
  obtain ⟨d, e1, b, hb, g1⟩ := onD_some g1
  obtain ⟨z1, z2, z3⟩ := hb.ok oc
  exact ⟨v1, .ref C, d.ty, .ref C, b, rfl, .own C, Top.ty R1 (k1.top R1 e1) z1 z2, z3, q _ _ g1 F1 H1 _ s1 R1 (.bl _)⟩
/-- x == y, x of the class C -/
def rEqO (K : PySem.W.Frag) (C : Addr) (sp : Sp) (neg : Bool) : R2 := fun x y H Q => ∃ a dx fs t, x = .ref a ∧ H a = some (.ins C dx fs) ∧ TyX K H y t ∧ PySem.W.notFirst K C t = true ∧ sp [x, y] H (fun z H' => ∃ b, z = .bl b ∧ Q (.bl (if neg then !b else b)) H') (fun _ _ _ => False)
variable {k : Nat} {fd : FuncData} {ps : List Str} {sp : Sp}
theorem run_eqO {A : Around} {pins : List (Addr × Obj)} {s : Shared} {Q : VK} {us : List Value} {vs : List V} (F : FnOk X.prog X.w X.K X.mg X.base (L2.CX X.prog X.w) k g fd ps sp) (hr : Room k A) (e0 : Env0 X.prog X.w X.K X.mg X.base A X.stack s H) (hb : Binds X.K fd ps [])
    (I : Inv X pins σ H s) (r : Vals vs us) (h : sp vs H Q (fun _ _ _ => False)) : wpAny (model X.prog X.w) A (call (.ref g) us) (EP X pins σ Q) X.xe s := by
  have hl : us.length = ps.length := by rw [← r.length]; exact F.len _ _ _ _ h
  refine wpAny_call (codeAny_mono (F.run A X.stack s H ⟨us, []⟩ us vs Q _ hr e0 (by simpa using hb s us I.kIn (by simpa using hl)) r h) fun r s' hq => ?_)
  cases r with
  | error e => exact passes0 pins σ H s e s' I hq
  | ok fl =>
    cases fl with
    | ret u => exact I.after hq
    | next => exact False.elim hq
    | brk => exact False.elim hq
    | cont => exact False.elim hq
theorem op_eqO (oe : OEq X.K C g) (F : FnOk X.prog X.w X.K X.mg X.base (L2.CX X.prog X.w) k g fd ps sp) (hr : Room (k + 1) X.A) (hb : Binds X.K fd ps []) : OpR X (compareOp .Eq) (rEqO X.K C sp false) := by
  intro pins s σ H x y v u Q I rx ry h
  obtain ⟨a, dx, fs, t, rfl, ha, ty, nf, q⟩ := h
  cases (show v = Value.ref a from rx)
  obtain ⟨mA, O, _⟩ := ins_get I.hok ha
  obtain ⟨od, J, _⟩ := O.look
  obtain ⟨P, Z, p, _⟩ := kit_of I ry ty
  obtain ⟨m, hF⟩ := I.fr
  show wpAny (model X.prog X.w) X.A (richCompare .Eq _ u) (EP X pins σ Q) X.xe s
  refine PySem.W.cmp_K (op := .Eq) (tb := t) hr.units0 hF I.ok.mod.kin J (Z.ty _ _ I.kIn p) nf oe.eq oe.fn (wpAny_mono (run_eqO F (hr.mono (Nat.le_succ _)) I.env0 hb I (us := [.ref a, u]) (vs := [.ref a, y]) (.cons rfl (.cons ry .nil)) q) (fun w s' z => ?_) fun _ _ x => x)
  obtain ⟨z', H', I', rz, b, ez, qz⟩ := z
  subst ez
  cases (show w = Value.bool b from rz)
  exact ⟨.bl b, H', I', rfl, qz⟩
theorem op_neO (oe : OEq X.K C g) (F : FnOk X.prog X.w X.K X.mg X.base (L2.CX X.prog X.w) k g fd ps sp) (hr : Room (k + 1) X.A) (hb : Binds X.K fd ps []) : OpR X (compareOp .NotEq) (rEqO X.K C sp true) := by
  intro pins s σ H x y v u Q I rx ry h
  obtain ⟨a, dx, fs, t, rfl, ha, ty, nf, q⟩ := h
  cases (show v = Value.ref a from rx)
  obtain ⟨mA, O, _⟩ := ins_get I.hok ha
  obtain ⟨od, J, _⟩ := O.look
  obtain ⟨P, Z, p, _⟩ := kit_of I ry ty
  obtain ⟨m, hF⟩ := I.fr
  show wpAny (model X.prog X.w) X.A (richCompare .NotEq _ u) (EP X pins σ Q) X.xe s
  refine BX.ne_K (tb := t) (by have := hr.un; omega) hF I.ok.mod.kin J (Z.ty _ _ I.kIn p) nf oe.eq oe.fn oe.ne oe.oc.cm (wpAny_mono (run_eqO F hr.in1 I.env0.in1 hb I (us := [.ref a, u]) (vs := [.ref a, y]) (.cons rfl (.cons ry .nil)) q) (fun w s' z => ?_) fun _ _ x => x)
  obtain ⟨z', H', I', rz, b, ez, qz⟩ := z
  subst ez
  cases (show w = Value.bool b from rz)
  exact ⟨b, rfl, .bl (!b), H', I', rfl, qz⟩
/-- the reading of x == y, x of the class C with an own == -/
def onBl (r : RV) (k : Bool → Prop) : Prop := match r with
  | .v (.bl b) => k b
  | _ => False
def mEqO (K : PySem.W.Frag) (C : Addr) (neg : Bool) (fs : FS) (ma mb : M) : M := fun ρ Q X => ma ρ (fun r1 ρ1 => onC (r1.cap ρ1) fun d1 ρ2 => mb ρ2 (fun r2 ρ3 => onC (r2.cap ρ3) fun d2 ρ4 =>
  ((match d1 with | .ins c _ => c = C | _ => False) ∧ NoBelow K C d2) ∧ fs [.fz d1, .fz d2] (fun r ρa => okRes r fun r => onBl r fun b => Q (.v (.bl (if neg then !b else b))) (giveBack [.d d1, .d d2] ρa ρ4)) (fun _ _ _ => False)) X) X
theorem NoBelow.ok (h : NoBelow K C d) : (∀ c fs, d = .ins c fs → OCls K c) ∧ d.odd = false ∧ PySem.W.notFirst K C d.ty = true := by
  refine ⟨fun c fs e => ?_, ?_, ?_⟩
  · subst e; exact h.1
  · cases d <;> first | rfl | exact h.elim
  · have bt : ∀ T : String, (PySem.fastFind? T).isSome = true → PySem.W.notFirst K C (.type T) = true := fun T hT => by
      unfold PySem.W.notFirst
      rw [sub_ty hT]
      simp
    cases d <;> first | exact bt _ (by decide +kernel) | exact h.2 | exact h.elim
theorem ts_eqO {fs : FS} {neg : Bool} {Q : VK} (h : tS K fx W (mEqO K C neg fs ma mb) σ H Q) : tOp (rEqO K C (spF K 2 fs) neg) (tS K fx W ma) (tS K fx W mb) σ H Q := by
  obtain ⟨F, G, ρ, Q0, X0, R, h, q, x⟩ := h
  refine ⟨F, G, ρ, _, X0, R, h, fun r1 ρ1 h1 F1 H1 v1 s1 R1 k1 => ?_, x⟩
  obtain ⟨d1, ρ2, e1, h1⟩ := onC_some h1
  obtain ⟨F2, s2, R2, k2⟩ := k1.cap R1 e1
  refine ⟨F2, G, ρ2, _, X0, R2, h1, fun r2 ρ3 h2 F3 H3 v2 s3 R3 k3 => ?_, x.mono (s1.trans s2)⟩
  obtain ⟨d2, ρ4, e2, ⟨hc, nb⟩, h2⟩ := onC_some h2
  obtain ⟨F4, s4, R4, k4⟩ := k3.cap R3 e2
  obtain ⟨z1, z2, z3⟩ := nb.ok
  have k2' := (k2.mono s3).mono s4
  have ins : ∃ a dx vs, v1 = .ref a ∧ H3 a = some (.ins C dx vs) := by
    cases k2' with
    | ins y1 y2 =>
      have h1' : _ = C := hc
      subst h1'
      exact ⟨_, _, _, rfl, R4.fh.ins y1⟩
    | _ => exact hc.elim
  obtain ⟨a, dx, vs, rfl, ha⟩ := ins
  have sm := ((s1.trans s2).trans s3).trans s4
  refine ⟨a, dx, vs, d2.ty, rfl, ha, Top.ty R4 (.dat k4) z1 z2, z3, ?_⟩
  refine sp_call (as := [.d d1, .d d2]) (vs := [.ref a, v2]) (X0 := fun _ _ _ => False) (Q0 := fun r ρ' => onBl r fun b => Q0 (.v (.bl (if neg then !b else b))) ρ') R4 ⟨k2', k4, trivial⟩ rfl (by simp only [lentOf]; exact List.nodup_nil) h2 (fun r ρ' z F' H' v s5 R5 k5 => ?_) fun c d ρ' z => z.elim
  unfold onBl at z
  split at z
  · rename_i b
    cases k5
    exact ⟨b, rfl, q _ _ z F' H' _ (sm.trans s5) R5 (.bl _)⟩
  · exact z.elim
variable {fs : FS}
theorem es_eqO (oe : OEq K C g) (Fo : FnD X.prog X.w X.K X.mg X.base k g fd ps fs) (hr : Room (k + 1) X.A) (hb : Binds X.K fd ps []) (hl : ps.length = 2) (ha : ES X fx W a ma) (hb' : ES X fx W b mb) (hK : X.K = K := by rfl) : ES X fx W (.Compare a [.Eq] [b] pos) (mEqO K C false fs ma mb) := by
  subst hK
  exact pe_imp (pe_cmpR (op_eqO oe Fo hr hb) ha hb' (nomark b)) fun _ _ _ h => by rw [hl]; exact ts_eqO h
theorem es_neO (oe : OEq K C g) (Fo : FnD X.prog X.w X.K X.mg X.base k g fd ps fs) (hr : Room (k + 1) X.A) (hb : Binds X.K fd ps []) (hl : ps.length = 2) (ha : ES X fx W a ma) (hb' : ES X fx W b mb) (hK : X.K = K := by rfl) : ES X fx W (.Compare a [.NotEq] [b] pos) (mEqO K C true fs ma mb) := by
  subst hK
  exact pe_imp (pe_cmpR (op_neO oe Fo hr hb) ha hb' (nomark b)) fun _ _ _ h => by rw [hl]; exact ts_eqO h
theorem et_eqO (oe : OEq K C g) (Fo : FnD X.prog X.w X.K X.mg X.base k g fd ps fs) (hr : Room (k + 1) X.A) (hb : Binds X.K fd ps []) (hl : ps.length = 2) (ha : ES X fx W a ma) (hb' : ES X fx W b mb) (hK : X.K = K := by rfl) : ET X fx W (.Compare a [.Eq] [b] pos) (mB (mEqO K C false fs ma mb)) := by
  subst hK
  exact pt_imp (pt_cmpR (op_eqO oe Fo hr hb) ha hb' (nomark b)) fun _ _ _ h => by rw [hl]; exact tTest_mono (fun _ _ _ z => ts_eqO z) (ts_test h)
theorem et_neO (oe : OEq K C g) (Fo : FnD X.prog X.w X.K X.mg X.base k g fd ps fs) (hr : Room (k + 1) X.A) (hb : Binds X.K fd ps []) (hl : ps.length = 2) (ha : ES X fx W a ma) (hb' : ES X fx W b mb) (hK : X.K = K := by rfl) : ET X fx W (.Compare a [.NotEq] [b] pos) (mB (mEqO K C true fs ma mb)) := by
  subst hK
  exact pt_imp (pt_cmpR (op_neO oe Fo hr hb) ha hb' (nomark b)) fun _ _ _ h => by rw [hl]; exact tTest_mono (fun _ _ _ z => ts_eqO z) (ts_test h)
end
end BB

namespace BB
open PySem PySem.Spec PyProof.Rows L2
/-! ### an owned list that is frozen for the while of one expression -/
mutual
def D.noL : D → Bool
  | .non => true
  | .bl _ => true
  | .int _ => true
  | .str _ => true
  | .lst _ => false
  | .tup xs => D.noLs xs
  | .ins _ fs => D.noLf fs
  | .scr _ => false
  | .dic _ => false
  | .xcp _ _ _ _ => false
  | .adr _ => true
def D.noLs : List D → Bool
  | [] => true
  | x :: xs => x.noL && D.noLs xs
def D.noLf : List (Str × D) → Bool
  | [] => true
  | x :: xs => x.2.noL && D.noLf xs
end
def SV.noL : SV → Bool
  | .no => true
  | .fz d => d.noL
  | .ow xs => D.noLs xs
  | .oi _ fs => D.noLf fs
  | .od _ => false
  | .tr _ _ => false
/-- holds nothing of its own -/
def SV.bare : SV → Bool
  | .no => true
  | .fz _ => true
  | _ => false
/-- without the lists of S -/
noncomputable def lessL (F : Hp) (S : Addr → Prop) : Hp := by
  classical
  exact fun b => if S b then none else F b
section
variable {X : Cx} {K : PySem.W.Frag} {F F' G H H' : Hp} {fx : List (Nat × Addr)} {W : WX} {ρ ρ' ρ1 : DE} {σ : L2.St} {pos p q : Pos} {e : Expr} {m : M} {a : Addr} {S : Addr → Prop}
theorem lessL_at {b : Addr} {o : HO} (hS : ∀ b, S b → ∃ vs, F b = some (.lst vs)) (h : F b = some o) (n : ∀ vs, o ≠ .lst vs) : lessL F S b = some o := by
  unfold lessL
  rw [if_neg (fun z => by obtain ⟨vs, e⟩ := hS b z; rw [h] at e; cases e; exact n _ rfl)]
  exact h
theorem lessL_same (hS : ∀ b, S b → F b = none) (s : Same F F') : Same F (lessL F' S) := fun b o e => by
  unfold lessL
  rw [if_neg (fun z => by rw [hS b z] at e; cases e)]
  exact s _ _ e
theorem lessL_le {b : Addr} {o : HO} (h : lessL F S b = some o) : F b = some o := by
  unfold lessL at h
  split at h
  · cases h
  · exact h
theorem lessL_no {b : Addr} (h : S b) : lessL F S b = none := by
  unfold lessL
  rw [if_pos h]
theorem lessL_none {b : Addr} (h : F b = none) : lessL F S b = none := by
  cases e : lessL F S b with
  | none => rfl
  | some o => rw [lessL_le e] at h; cases h
mutual
theorem Dat.less (hS : ∀ b, S b → ∃ vs, F b = some (.lst vs)) : ∀ {d : D} {v : V}, Dat K F v d → d.noL = true → Dat K (lessL F S) v d
  | .non, _, h, _ => by cases h; exact .non
  | .bl _, _, h, _ => by cases h; exact .bl _
  | .int _, _, h, _ => by cases h; exact .int _
  | .str _, _, h, _ => by cases h; exact .str _
  | .lst _, _, _, n => by cases n
  | .tup xs, _, h, n => by
    cases h with
    | tup h t =>
      refine .tup ?_ (DatL.less hS t n)
      rcases h with (h | ⟨o, h⟩) | h
      · exact .inl (.inl (lessL_at hS h fun _ z => by cases z))
      · exact .inl (.inr ⟨o, lessL_at hS h fun _ z => by cases z⟩)
      · exact .inr h
  | .ins _ fs, _, h, n => by
    cases h with
    | ins h t => exact .ins (lessL_at hS h fun _ z => by cases z) (DatF.less hS t n)
  | .scr _, _, _, n => by cases n
  | .dic _, _, _, n => by cases n
  | .xcp _ _ _ _, _, _, n => by cases n
  | .adr _, _, h, _ => by cases h; exact .adr _
theorem DatL.less (hS : ∀ b, S b → ∃ vs, F b = some (.lst vs)) : ∀ {ds : List D} {vs : List V}, DatL K F vs ds → D.noLs ds = true → DatL K (lessL F S) vs ds
  | [], _, h, _ => by cases h; exact .nil
  | d :: ds, _, h, n => by
    cases h with
    | cons h t =>
      have n' : (d.noL && D.noLs ds) = true := n
      rw [Bool.and_eq_true] at n'
      exact .cons (Dat.less hS h n'.1) (DatL.less hS t n'.2)
theorem DatF.less (hS : ∀ b, S b → ∃ vs, F b = some (.lst vs)) : ∀ {ds : List (Str × D)} {vs : List (Str × V)}, DatF K F vs ds → D.noLf ds = true → DatF K (lessL F S) vs ds
  | [], _, h, _ => by cases h; exact .nil
  | d :: ds, _, h, n => by
    cases h with
    | cons h t =>
      have n' : (_ && D.noLf ds) = true := n
      rw [Bool.and_eq_true] at n'
      exact .cons (Dat.less hS h n'.1) (DatF.less hS t n'.2)
end
theorem OC.less (hS : ∀ b, S b → ∃ vs, F b = some (.lst vs)) {s : SV} {o : HO} (h : OC K F s o) (n : s.noL = true) : OC K (lessL F S) s o := by
  cases s <;> cases o <;> first | exact h.elim | exact DatL.less hS h n | exact ⟨h.1, DatF.less hS h.2 n⟩ | cases n
/-- a slot that stays as it was, or holds no list -/
def borE (s s' : SV) : Prop := (s'.bare = true ∧ s = s') ∨ s'.noL = true
def borAll : DE → DE → Prop
  | [], [] => True
  | s :: ρ, s' :: ρ' => borE s s' ∧ borAll ρ ρ'
  | _, _ => False
theorem borAll.get : ∀ {ρ ρ' : DE} {j : Nat} {s' : SV}, borAll ρ ρ' → ρ'[j]? = some s' → ∃ s, ρ[j]? = some s ∧ borE s s'
  | [], [], _, _, _, e => by simp at e
  | s :: ρ, s' :: ρ', 0, _, h, e => by simp at e; subst e; exact ⟨s, rfl, h.1⟩
  | s :: ρ, s' :: ρ', j + 1, _, h, e => by
    obtain ⟨t, h1, h2⟩ := borAll.get (ρ := ρ) (ρ' := ρ') (j := j) h.2 (by simpa using e)
    exact ⟨t, by simpa using h1, h2⟩
  | [], _ :: _, _, _, h, _ => h.elim
  | _ :: _, [], _, _, h, _ => h.elim
/-- the slot i was owned ahead of it, and is owned again -/
theorem Rep.thaw {i : Nat} {xs : List D} (R : Rep K F G H fx ρ σ) (hi : ρ[i]? = some (.ow xs)) (ha : σ[i]? = some (some (.ref a))) {vs : List V} (hv : DatL K F vs xs) {F1 : Hp} (s1 : Same F F1) (h1 : F1 a = some (.lst vs))
    (sm : Same F1 F') (R' : Rep K F' G H' fx ρ' σ) (hi' : ρ'[i]? = some (.fz (.lst xs))) (hb : borAll (ρ.set i .no) (ρ'.set i .no)) (hFa : F a = none) (hGa : G a = none) :
    Same F (lessL F' fun b => b = a) ∧ Rep K (lessL F' fun b => b = a) G H' fx (ρ'.set i (.ow xs)) σ ∧ (∀ b, b = a → ∃ vs, F' b = some (.lst vs)) ∧ (∀ j, Owns ρ' σ j a → False) := by
  have hS : ∀ b, b = a → ∃ vs, F' b = some (.lst vs) := fun b e => by subst e; exact ⟨vs, sm _ _ h1⟩
  have sF : Same F (lessL F' fun b => b = a) := lessL_same (fun b e => by subst e; exact hFa) (s1.trans sm)
  have no : ∀ j, Owns ρ' σ j a → False := fun j h => by
    obtain ⟨_, _, z, _⟩ := R'.ownH h
    rw [sm _ _ h1] at z
    cases z
  have aux : ∀ j b, Owns (ρ'.set i (.ow xs)) σ j b → (j = i ∧ b = a) ∨ (j ≠ i ∧ Owns ρ' σ j b) := fun j b ⟨x, q, z⟩ => by
    rcases set_get? q with ⟨rfl, rfl⟩ | ⟨hj, q⟩
    · rw [ha] at z
      have z : some (some (V.ref a)) = some (some (.ref b)) := z
      cases z; exact .inl ⟨rfl, rfl⟩
    · exact .inr ⟨hj, x, q, z⟩
  refine ⟨sF, ⟨fun b o e => R'.fh _ _ (lessL_le e), R'.gh, fun b o e => R'.fg _ _ (lessL_le e), by rw [List.length_set]; exact R'.len, fun j x q => ?_, fun j k b q1 q2 => ?_, R'.fix⟩, hS, no⟩
  · rcases set_get? q with ⟨rfl, rfl⟩ | ⟨hj, q⟩
    · exact ⟨a, .lst vs, ha, R'.fh.lst (sm _ _ h1), lessL_no rfl, hGa, hv.mono sF⟩
    · obtain ⟨s0, g1, g2⟩ := hb.get (j := j) (by rw [List.getElem?_set_ne (Ne.symm hj)]; exact q)
      rw [List.getElem?_set_ne (Ne.symm hj)] at g1
      rcases g2 with ⟨no', rfl⟩ | nl
      · have z := R.sl j s0 g1
        cases s0 with
        | no => trivial
        | fz d => obtain ⟨v, y1, y2⟩ := z; exact ⟨v, y1, y2.mono sF⟩
        | ow _ => cases no'
        | oi _ _ => cases no'
        | od _ => cases no'
        | tr _ _ => cases no'
      · by_cases ho : x.own = true
        · obtain ⟨b, o, y1, y2, y3, y4, y5⟩ := (R'.sl j x q).own ho
          exact SlOk.of_own ho ⟨b, o, y1, y2, lessL_none y3, y4, y5.less hS nl⟩
        · have z := R'.sl j x q
          cases x with
          | no => trivial
          | fz d => obtain ⟨v, y1, y2⟩ := z; exact ⟨v, y1, y2.less hS nl⟩
          | ow xs => exact absurd rfl ho
          | oi c fs => exact absurd rfl ho
          | od kvs => exact absurd rfl ho
          | tr _ _ => cases nl
  · rcases aux j b q1 with ⟨rfl, rfl⟩ | ⟨_, z1⟩
    · rcases aux k _ q2 with ⟨rfl, _⟩ | ⟨_, z2⟩
      · rfl
      · exact (no k z2).elim
    · rcases aux k b q2 with ⟨rfl, rfl⟩ | ⟨_, z2⟩
      · exact (no j z1).elim
      · exact R'.nd j k b z1 z2
/-- a result that holds no list -/
def RV.noL : RV → Bool
  | .v d => d.noL
  | .sl _ => true
  | .o s => s.noL
  | .t _ => false
  | .gr _ _ => true
/-- the reading of an expression ahead of which the slot i, an owned list, is frozen, and behind which it is owned again -/
def mBor (i : Nat) (m : M) : M := fun ρ Q X => match ρ[i]? with
  | some (.ow xs) => m (ρ.set i (.fz (.lst xs))) (fun r ρ' => (r.noL = true ∧ ρ'[i]? = some (.fz (.lst xs)) ∧ borAll (ρ.set i .no) (ρ'.set i .no)) ∧ Q r (ρ'.set i (.ow xs)))
      (fun c d ρ' => (d.noL = true ∧ ρ'[i]? = some (.fz (.lst xs)) ∧ borAll (ρ.set i .no) (ρ'.set i .no)) ∧ X c d (ρ'.set i (.ow xs)))
  | _ => False
theorem es_bor (i : Nat) (h : ES X fx W e m) : ES X fx W e (mBor i m) := by
  refine pe_imp h fun σ H Q ⟨F, G, ρ, Q0, X0, R, h, q, x⟩ => ?_
  unfold mBor at h
  split at h
  · rename_i xs hi
    obtain ⟨a, o, ha, h2, h3, h4, h5⟩ := R.sl i _ hi
    cases o <;> first | exact h5.elim | skip
    rename_i vs
    obtain ⟨F1, sm, R1, k1⟩ := R.frzSlot hi rfl rfl ha
    cases k1 with
    | lst g1 g2 =>
      have hvs : F1 a = some (.lst _) := g1
      have e := R1.fh.lst g1
      rw [h2] at e
      cases e
      refine ⟨F1, G, _, _, _, R1, h, fun r ρ1 z F' H' v s2 R2 k2 => ?_, fun c d ρ1 z F' H' v dx s2 R2 y1 y2 y3 y4 => ?_⟩
      · obtain ⟨⟨z1, z2, z3⟩, z4⟩ := z
        obtain ⟨w1, w2, w3, w4⟩ := Rep.thaw R hi ha h5 sm hvs s2 R2 z2 z3 h3 h4
        refine q _ _ z4 _ _ _ w1 w2 ?_
        cases r with
        | v d => exact Dat.less w3 (show Dat X.K F' v d from k2) z1
        | sl j => exact k2
        | t _ => cases z1
        | gr _ _ => exact k2
        | o s =>
          obtain ⟨t1, b, o, rfl, t2, t3, t4, t5, t6⟩ := k2
          refine ⟨t1, b, o, rfl, t2, lessL_none t3, t4, t5.less w3 z1, fun j ⟨y, g1, g3⟩ => ?_⟩
          rcases set_get? g1 with ⟨rfl, rfl⟩ | ⟨hj, g1⟩
          · rw [ha] at g3
            have g3 : some (some (V.ref a)) = some (some (.ref b)) := g3
            cases g3
            rw [s2 _ _ hvs] at t3
            cases t3
          · exact t6 j ⟨y, g1, g3⟩
      · obtain ⟨⟨z1, z2, z3⟩, z4⟩ := z
        obtain ⟨w1, w2, w3, w4⟩ := Rep.thaw R hi ha h5 sm hvs s2 R2 z2 z3 h3 h4
        exact x _ _ _ z4 _ _ _ _ w1 w2 y1 (y2.less w3 z1) (lessL_none y3) y4
  · exact h.elim
end
end BB

namespace BB
open PySem PySem.Spec PyProof.Rows L2
theorem dig_low {b d i u x : Nat} (hb : 0 < b) (h : i < d) : (u * b ^ d + x) / b ^ i % b = x / b ^ i % b := by
  have e : b ^ d = b ^ i * (b * b ^ (d - i - 1)) := by
    rw [← Nat.pow_succ', ← Nat.pow_add]
    congr 1
    omega
  have e2 : u * b ^ d + x = b ^ i * (b * (u * b ^ (d - i - 1))) + x := by
    rw [e, Nat.mul_left_comm, Nat.mul_left_comm u b]
  rw [e2, Nat.mul_add_div (Nat.pow_pos hb), Nat.mul_add_mod]
theorem dig_top {b d u x : Nat} (hb : 0 < b) (hu : u < b) (hx : x < b ^ d) : (u * b ^ d + x) / b ^ d % b = u := by
  rw [Nat.mul_comm, Nat.mul_add_div (Nat.pow_pos hb), Nat.div_eq_of_lt hx, Nat.add_zero, Nat.mod_eq_of_lt hu]
theorem val_shift {b d u v x y : Nat} {ls : List Line} (hb : 0 < b) : ∀ t, t ≤ d → valN b ls (u * b ^ d + x) (v * b ^ d + y) t = valN b ls x y t
  | 0, _ => by funext z; rfl
  | t + 1, h => by
    funext z
    rw [valN_form, valN_form, val_shift hb t (by omega), dig_low hb (by omega), dig_low hb (by omega)]
theorem val_up {b d u v x y : Nat} {ls : List Line} (hb : 0 < b) (hu : u < b) (hv : v < b) (hx : x < b ^ d) (hy : y < b ^ d) (z : Str) :
    valN b ls (u * b ^ d + x) (v * b ^ d + y) (d + 1) z = formV (valN b ls x y d) (formAt (findL ls z).2.2 (u : Nat) (v : Nat)) := by
  rw [valN_form, val_shift hb d (Nat.le_refl d), dig_top hb hu hx, dig_top hb hv hy]
theorem up_lt {b d u x : Nat} (hu : u < b) (hx : x < b ^ d) : u * b ^ d + x < b ^ (d + 1) := by
  have : (u + 1) * b ^ d ≤ b * b ^ d := Nat.mul_le_mul_right _ hu
  rw [Nat.add_mul, Nat.one_mul] at this
  rw [Nat.pow_succ, Nat.mul_comm (b ^ d)]
  omega
end BB

namespace BB
open PySem PySem.Spec PyProof.Rows L2
section
variable {X : Cx} {K : PySem.W.Frag} {F F' G H H' : Hp} {fx : List (Nat × Addr)} {W : WX} {ρ ρ' ρ1 : DE} {σ : L2.St} {pos p q : Pos} {e : Expr} {m : M}
/-- xs[::-1] -/
def mSlR (m : M) : M := fun ρ Q X => m ρ (fun r ρ1 => match r.at ρ1 with
  | some (.lst xs) => Q (.o (.ow xs.reverse)) ρ1
  | some (.scr xs) => Q (.o (.ow xs.reverse)) ρ1
  | _ => False) X
theorem es_slR {k} {p1 p2 p3 : Pos} (he : ES X fx W e m) : ES X fx W (.Subscript e (.Slice none none (some (.UnaryOp .USub (.Constant (.int 1) k p1) p2)) p3) pos) (mSlR m) := by
  refine pe_imp (pe_revL he) fun σ H Q ⟨F, G, ρ, Q0, X0, R, h, q, x⟩ => ⟨F, G, ρ, _, X0, R, h, fun r ρ1 h1 F1 H1 v1 s1 R1 k1 => ?_, x⟩
  split at h1
  · rename_i xs e1
    obtain ⟨a, vs, rfl, ha, da⟩ := (k1.top R1 e1).lst_inv R1
    refine ⟨a, vs, rfl, SqL.of ha, fun p hp => ?_⟩
    obtain ⟨R2, k2⟩ := out_lst R1 hp da.reverse
    exact q _ _ h1 F1 _ _ s1 R2 k2
  · rename_i xs e1
    obtain ⟨a, vs, rfl, ha, da⟩ := (k1.top R1 e1).scr_inv R1
    refine ⟨a, vs, rfl, ha, fun p hp => ?_⟩
    obtain ⟨R2, k2⟩ := out_lst R1 hp da.reverse
    exact q _ _ h1 F1 _ _ s1 R2 k2
  · exact h1.elim
end
/-! ### what holds no list -/
theorem noLs_all : ∀ {ds : List D}, (∀ d, d ∈ ds → d.noL = true) → D.noLs ds = true
  | [], _ => rfl
  | d :: ds, h => by
    show (d.noL && D.noLs ds) = true
    rw [h d List.mem_cons_self, noLs_all fun x hx => h x (List.mem_cons_of_mem _ hx)]
    rfl
theorem noLs_int (xs : List Int) : D.noLs (xs.map D.int) = true := noLs_all fun d h => by obtain ⟨x, _, rfl⟩ := List.mem_map.mp h; rfl
theorem noLs_str (xs : List Str) : D.noLs (xs.map D.str) = true := noLs_all fun d h => by obtain ⟨x, _, rfl⟩ := List.mem_map.mp h; rfl
theorem noL_form (f : Form) : (formT f).noL = true := noLs_all fun d h => by obtain ⟨x, _, rfl⟩ := List.mem_map.mp h; rfl
theorem noL_blocks (b : List (List Form)) : (blocksT b).noL = true := noLs_all fun d h => by
  obtain ⟨x, _, rfl⟩ := List.mem_map.mp h
  exact noLs_all fun d h => by
    obtain ⟨x, _, rfl⟩ := List.mem_map.mp h
    exact noL_form x
theorem noL_line (x : Line) : (lineT x).noL = true := by
  show (true && (true && ((blocksT x.2.2).noL && true))) = true
  rw [noL_blocks]
  rfl
theorem noLf_book (b : Int) (ls : List Line) : D.noLf (bookF b ls) = true := by
  show (true && (D.noLs (ls.map lineT) && true)) = true
  rw [noLs_all fun d h => by obtain ⟨x, _, rfl⟩ := List.mem_map.mp h; exact noL_line x]
  rfl
theorem noLf_table {bk : D} (sh : List Int) (h : bk.noL = true) : D.noLf (tableF bk sh) = true := by
  show (bk.noL && (D.noLs (sh.map D.int) && true)) = true
  rw [h, noLs_int]
  rfl
theorem noL_book (C : Addr) (b : Int) (ls : List Line) : (D.ins C (bookF b ls)).noL = true := noLf_book b ls
theorem noLf_tb (C : Addr) (b : Int) (ls : List Line) (sh : List Int) : D.noLf (tableF (.ins C (bookF b ls)) sh) = true := noLf_table sh (noL_book C b ls)
end BB

namespace BB
open PySem PySem.Spec PyProof.Rows L2
/-! ### == of data that f tells -/
structure EncE {α : Type} [DecidableEq α] (P : α → Prop) (n : Nat) (f : α → D) (g : α → PyData) : Prop where
  py : ∀ x, (f x).py = some (g x)
  lay : ∀ x, P x → (g x).canLay0 = true
  dep : ∀ x, (g x).depth ≤ n
  eq : ∀ x y, PyData.eqv (g x) (g y) = decide (x = y)
section
variable {α β γ : Type} [DecidableEq α] [DecidableEq β] [DecidableEq γ] {P : α → Prop} {P' : β → Prop} {P'' : γ → Prop} {n m k : Nat} {f : α → D} {g : α → PyData} {f' : β → D} {g' : β → PyData} {f'' : γ → D} {g'' : γ → PyData}
theorem enc_int : EncE (fun _ : Int => True) 0 D.int PyData.int where
  py _ := rfl
  lay _ _ := by simp only [PyData.canLay0]
  dep _ := by simp only [PyData.depth, Nat.le_refl]
  eq x y := by
    simp only [PyData.eqv]
    by_cases h : x = y <;> simp [h]
theorem enc_str : EncE OkS 0 D.str PyData.str where
  py _ := rfl
  lay _ h := h
  dep _ := by simp only [PyData.depth, Nat.le_refl]
  eq x y := by
    simp only [PyData.eqv]
    by_cases h : x = y <;> simp [h]
theorem EncE.pys (h : EncE P n f g) : ∀ xs : List α, D.pys (xs.map f) = some (xs.map g)
  | [] => rfl
  | x :: xs => by
    rw [List.map_cons]
    unfold D.pys
    rw [h.py, h.pys xs]
    rfl
theorem EncE.lays (h : EncE P n f g) : ∀ xs : List α, (∀ x, x ∈ xs → P x) → PyData.canLayAll0 (xs.map g) = true
  | [], _ => by simp only [List.map_nil, PyData.canLayAll0]
  | x :: xs, k => by simp only [List.map_cons, PyData.canLayAll0, h.lay x (k x List.mem_cons_self), h.lays xs fun y hy => k y (List.mem_cons_of_mem _ hy), Bool.and_self]
theorem EncE.deps (h : EncE P n f g) : ∀ xs : List α, PyData.depthAll (xs.map g) ≤ n
  | [] => by simp [PyData.depthAll]
  | x :: xs => by
    have := h.deps xs
    have := h.dep x
    simp only [List.map_cons, PyData.depthAll]
    omega
theorem EncE.eqs (h : EncE P n f g) : ∀ xs ys : List α, PyData.eqvAll (xs.map g) (ys.map g) = decide (xs = ys)
  | [], [] => rfl
  | [], _ :: _ => rfl
  | _ :: _, [] => rfl
  | x :: xs, y :: ys => by
    simp only [List.map_cons, PyData.eqvAll, h.eq, h.eqs xs ys]
    by_cases e : x = y <;> by_cases e' : xs = ys <;> simp [e, e']
theorem enc_tup (h : EncE P n f g) : EncE (fun xs : List α => ∀ x, x ∈ xs → P x) (n + 1) (fun xs => .tup (xs.map f)) (fun xs => .tuple (xs.map g)) where
  py xs := by
    show (match D.pys (xs.map f) with | some ys => some (PyData.tuple ys) | none => none) = _
    rw [h.pys]
  lay xs k := by
    simp only [PyData.canLay0]
    exact h.lays xs k
  dep xs := by
    have := h.deps xs
    simp only [PyData.depth]
    omega
  eq xs ys := by
    simp only [PyData.eqv]
    exact h.eqs xs ys
theorem enc_lst (h : EncE P n f g) : EncE (fun xs : List α => ∀ x, x ∈ xs → P x) (n + 1) (fun xs => .lst (xs.map f)) (fun xs => .list (xs.map g)) where
  py xs := by
    show (match D.pys (xs.map f) with | some ys => some (PyData.list ys) | none => none) = _
    rw [h.pys]
  lay xs k := by
    simp only [PyData.canLay0]
    exact h.lays xs k
  dep xs := by
    have := h.deps xs
    simp only [PyData.depth]
    omega
  eq xs ys := by
    simp only [PyData.eqv]
    exact h.eqs xs ys
theorem enc_pair (h : EncE P n f g) (h' : EncE P' m f' g') : EncE (fun x : α × β => P x.1 ∧ P' x.2) (n + m + 1) (fun x => .tup [f x.1, f' x.2]) (fun x => .tuple [g x.1, g' x.2]) where
  py x := by
    show (match D.pys [f x.1, f' x.2] with | some ys => some (PyData.tuple ys) | none => none) = _
    simp only [D.pys, h.py, h'.py]
  lay x k := by simp only [PyData.canLay0, PyData.canLayAll0, h.lay _ k.1, h'.lay _ k.2, Bool.and_self]
  dep x := by
    have := h.dep x.1
    have := h'.dep x.2
    simp only [PyData.depth, PyData.depthAll]
    omega
  eq x y := by
    obtain ⟨x1, x2⟩ := x
    obtain ⟨y1, y2⟩ := y
    simp only [PyData.eqv, PyData.eqvAll, h.eq, h'.eq, Bool.and_true]
    by_cases e : x1 = y1 <;> by_cases e' : x2 = y2 <;> simp [e, e']
theorem enc_trip (h : EncE P n f g) (h' : EncE P' m f' g') (h'' : EncE P'' k f'' g'') : EncE (fun x : α × β × γ => P x.1 ∧ P' x.2.1 ∧ P'' x.2.2) (n + m + k + 1) (fun x => .tup [f x.1, f' x.2.1, f'' x.2.2]) (fun x => .tuple [g x.1, g' x.2.1, g'' x.2.2]) where
  py x := by
    show (match D.pys [f x.1, f' x.2.1, f'' x.2.2] with | some ys => some (PyData.tuple ys) | none => none) = _
    simp only [D.pys, h.py, h'.py, h''.py]
  lay x k := by simp only [PyData.canLay0, PyData.canLayAll0, h.lay _ k.1, h'.lay _ k.2.1, h''.lay _ k.2.2, Bool.and_self]
  dep x := by
    have := h.dep x.1
    have := h'.dep x.2.1
    have := h''.dep x.2.2
    simp only [PyData.depth, PyData.depthAll]
    omega
  eq x y := by
    obtain ⟨x1, x2, x3⟩ := x
    obtain ⟨y1, y2, y3⟩ := y
    simp only [PyData.eqv, PyData.eqvAll, h.eq, h'.eq, h''.eq, Bool.and_true]
    by_cases e : x1 = y1 <;> by_cases e' : x2 = y2 <;> by_cases e'' : x3 = y3 <;> simp [e, e', e'']
theorem EncE.eqD (h : EncE P n f g) (hn : n ≤ 64) {x y : α} (hx : P x) (hy : P y) : BB.eqD (f x) (f y) = some (decide (x = y)) := by
  have sh : ∀ x, P x → SeqAt.shaped (g x) = true := fun x hx => by
    unfold SeqAt.shaped
    rw [h.lay x hx, decide_eq_true (Nat.le_trans (h.dep x) hn)]
    rfl
  unfold BB.eqD
  rw [h.py, h.py]
  show (if SeqAt.shaped (g x) = true ∧ SeqAt.shaped (g y) = true then some (PyData.eqv (g x) (g y)) else none) = _
  rw [if_pos ⟨sh x hx, sh y hy⟩, h.eq]
theorem EncE.fEq (h : EncE P n f g) (hn : n ≤ 64) (hs : ∀ x y, eqS (f x) (f y) = none ∨ eqS (f x) (f y) = some (decide (x = y))) {x y : α} (hx : P x) (hy : P y) (neg : Bool) (Q : RV → Prop) : BB.fEq neg (f x) (f y) Q = Q (.v (.bl (if neg then !(decide (x = y)) else decide (x = y)))) := by
  unfold BB.fEq
  rcases hs x y with e | e
  · rw [e, h.eqD hn hx hy]
  · rw [e]
end
def decBl : DecidableEq (List (List (List (Int × Str)))) := inferInstance
def decLine : DecidableEq Line := @instDecidableEqProd _ _ _ (@instDecidableEqProd _ _ _ decBl)
/-- two books' lines are the same -/
def eqLs (ls ls' : List Line) : Bool := @decide (ls = ls') (@instDecidableEqList _ decLine ls ls')
theorem eqLs_iff {ls ls' : List Line} : eqLs ls ls' = true ↔ ls = ls' := by
  unfold eqLs
  exact @decide_eq_true_iff (ls = ls') (@instDecidableEqList _ decLine ls ls')
theorem eqLs_self (ls : List Line) : eqLs ls ls = true := eqLs_iff.mpr rfl
theorem eqLs_not {ls ls' : List Line} (h : ls ≠ ls') : eqLs ls ls' = false := by
  cases e : eqLs ls ls' with
  | false => rfl
  | true => exact absurd (eqLs_iff.mp e) h
section
def enc_form := enc_tup (enc_pair enc_int enc_str)
def enc_formL := enc_lst (enc_pair enc_int enc_str)
def enc_blocks := enc_tup (enc_tup enc_form)
def enc_blocksL := enc_lst (enc_lst enc_formL)
def enc_line := @enc_trip _ _ _ _ _ decBl _ _ _ _ _ _ _ _ _ _ _ _ enc_str enc_int enc_blocks
def enc_lineL := @enc_trip _ _ _ _ _ decBl _ _ _ _ _ _ _ _ _ _ _ _ enc_str enc_int enc_blocksL
end
def enc_lines := @enc_tup _ decLine _ _ _ _ enc_line
def enc_linesL := @enc_lst _ decLine _ _ _ _ enc_lineL
/-- all texts in it can be laid -/
def LineS (x : Line) : Prop := OkS x.1 ∧ ∀ r, r ∈ x.2.2 → ∀ f, f ∈ r → ∀ c, c ∈ f → OkS c.2
theorem BookOk.ln {b : Nat} {ls : List Line} (h : BookOk b ls) : ∀ x, x ∈ ls → LineS x := fun x hx => ⟨h.nm _ (List.mem_map_of_mem hx), fun r hr f hf c hc => h.nm _ (h.fm x hx r hr f hf c hc)⟩
theorem LineS.enc {x : Line} (h : LineS x) : OkS x.1 ∧ True ∧ ∀ r, r ∈ x.2.2 → ∀ f, f ∈ r → ∀ c, c ∈ f → True ∧ OkS c.2 := ⟨h.1, trivial, fun r hr f hf c hc => ⟨trivial, h.2 r hr f hf c hc⟩⟩
theorem fEq_lines (neg : Bool) {ls ls' : List Line} (h : ∀ x, x ∈ ls → LineS x) (h' : ∀ x, x ∈ ls' → LineS x) (Q : RV → Prop) : fEq neg (.tup (ls.map lineT)) (.tup (ls'.map lineT)) Q = Q (.v (.bl (if neg then !(eqLs ls ls') else eqLs ls ls'))) :=
  @EncE.fEq _ (@instDecidableEqList _ decLine) _ _ _ _ enc_lines (by decide) (fun _ _ => .inl rfl) _ _ (fun x hx => (h x hx).enc) (fun x hx => (h' x hx).enc) neg Q
theorem fEq_linesL (neg : Bool) {ls ls' : List Line} (h : ∀ x, x ∈ ls → LineS x) (h' : ∀ x, x ∈ ls' → LineS x) (Q : RV → Prop) : fEq neg (.lst (ls.map lineL)) (.lst (ls'.map lineL)) Q = Q (.v (.bl (if neg then !(eqLs ls ls') else eqLs ls ls'))) :=
  @EncE.fEq _ (@instDecidableEqList _ decLine) _ _ _ _ enc_linesL (by decide) (fun _ _ => .inl rfl) _ _ (fun x hx => (h x hx).enc) (fun x hx => (h' x hx).enc) neg Q
theorem fEq_ti (neg : Bool) (xs ys : List Int) (Q : RV → Prop) : fEq neg (.tup (xs.map D.int)) (.tup (ys.map D.int)) Q = Q (.v (.bl (if neg then !(decide (xs = ys)) else decide (xs = ys)))) :=
  (enc_tup enc_int).fEq (by decide) (fun _ _ => .inl rfl) (fun _ _ => trivial) (fun _ _ => trivial) neg Q
end BB

namespace BB
open PySem PySem.Spec PyProof.Rows L2
theorem cut_to {α : Type} (xs : List α) (n : Nat) : cut xs none (some (n : Int)) = xs.take n := by
  unfold cut
  rw [HT.sIx_none, HT.sIx_nat, List.drop_zero, Nat.sub_zero]
  by_cases h : n ≤ xs.length
  · rw [Nat.min_eq_left h]
  · rw [Nat.min_eq_right (by omega), List.take_length, List.take_of_length_le (by omega)]
theorem cut_from {α : Type} (xs : List α) (n : Nat) : cut xs (some (n : Int)) none = xs.drop n := by
  unfold cut
  rw [HT.sIx_none, HT.sIx_nat]
  by_cases h : n ≤ xs.length
  · rw [Nat.min_eq_left h, List.take_of_length_le (by rw [List.length_drop]; omega)]
  · rw [Nat.min_eq_right (by omega), Nat.sub_self, List.take_zero, List.drop_of_length_le (by omega)]
theorem cut_last {α : Type} (xs : List α) : cut xs none (some (-1)) = xs.dropLast := by
  unfold cut
  rw [HT.sIx_none, List.drop_zero, Nat.sub_zero, List.dropLast_eq_take]
  congr 1
  show (if (-1 : Int) < 0 then ((-1 : Int) + (xs.length : Int)).toNat else min (-1 : Int).toNat xs.length) = _
  rw [if_pos (by decide)]
  omega
theorem rev_map {α β : Type} (f : α → β) (l : List α) : (l.map f).reverse = l.reverse.map f := List.map_reverse.symm
theorem nms_rev (ls : List Line) : nmsOf ls.reverse = (nmsOf ls).reverse := by unfold nmsOf; rw [List.map_reverse]
theorem BookOk.rev {b : Nat} {ls : List Line} (h : BookOk b ls) : BookOk b ls.reverse where
  few := by rw [List.length_reverse]; exact h.few
  base := h.base
  nm x hx := h.nm x (by rw [nms_rev] at hx; exact List.mem_reverse.mp hx)
  sq x hx := h.sq x (List.mem_reverse.mp hx)
  fm x hx r hr f hf c hc := by rw [nms_rev]; exact List.mem_reverse.mpr (h.fm x (List.mem_reverse.mp hx) r hr f hf c hc)
theorem BookIn.rev {b : Nat} {ls : List Line} (h : BookIn b ls) : BookIn b ls.reverse where
  ok := h.ok.rev
  two := h.two
  nd := by rw [nms_rev]; exact (List.reverse_perm _).nodup_iff.mpr h.nd
  nam x hx := h.nam x (by rw [nms_rev] at hx; exact List.mem_reverse.mp hx)
  sz x hx := h.sz x (by rw [nms_rev] at hx; exact List.mem_reverse.mp hx)
  fl x hx := h.fl x (List.mem_reverse.mp hx)
theorem rev_self {α : Type} : ∀ {l : List α}, l.Nodup → l.reverse = l → l.length < 2
  | [], _, _ => by simp
  | [_], _, _ => by simp
  | x :: y :: l, hn, h => by
    exfalso
    have h1 : (x :: y :: l).reverse[0]? = some x := by rw [h]; rfl
    rw [List.getElem?_reverse (by simp)] at h1
    have h2 : (x :: y :: l)[(x :: y :: l).length - 1 - 0]? = some x := h1
    have h3 : ((y :: l))[(y :: l).length - 1]? = some x := by
      rw [show (x :: y :: l).length - 1 - 0 = ((y :: l).length - 1) + 1 by simp] at h2
      simpa using h2
    exact (List.nodup_cons.mp hn).1 (List.mem_of_getElem? h3)
theorem rev_short {α : Type} : ∀ {l : List α}, l.length < 2 → l.reverse = l
  | [], _ => rfl
  | [_], _ => rfl
  | _ :: _ :: _, h => by simp at h; omega
theorem eq_rev {ls : List Line} (hn : (nmsOf ls).Nodup) : eqLs ls ls.reverse = decide (ls.length < 2) := by
  by_cases h : ls.length < 2
  · rw [decide_eq_true h, rev_short h, eqLs_self]
  · rw [decide_eq_false h]
    refine eqLs_not fun e => h ?_
    have e2 : (nmsOf ls).reverse = nmsOf ls := by rw [← nms_rev, ← e]
    have := rev_self hn e2
    rwa [nms_len] at this
theorem set_other {sh : List Int} {i : Nat} (h : i < sh.length) : sh.take i ++ [sh.getD i 0 + 1] ++ sh.drop (i + 1) ≠ sh := fun e => by
  have h1 : (sh.take i ++ [sh.getD i 0 + 1] ++ sh.drop (i + 1))[i]? = sh[i]? := by rw [e]
  rw [List.append_assoc, List.getElem?_append_right (by rw [List.length_take]; omega), List.length_take, Nat.min_eq_left (by omega), Nat.sub_self, getD_some h] at h1
  simp at h1
  omega
theorem set_len {sh : List Int} {i : Nat} (h : i < sh.length) (x : Int) : (sh.take i ++ [x] ++ sh.drop (i + 1)).length = sh.length := by
  rw [List.length_append, List.length_append, List.length_take, List.length_drop, List.length_singleton]
  omega
/-- == of two truths -/
theorem fEq_b (neg : Bool) (x y : Bool) (Q : RV → Prop) : fEq neg (.bl x) (.bl y) Q = Q (.v (.bl (if neg then !(x == y) else (x == y)))) := by
  have e : eqD (.bl x) (.bl y) = some (x == y) := by cases x <;> cases y <;> decide +kernel
  unfold fEq
  rw [e]
  rfl
/-- texts of two alike lists -/
def Shown (d : D) : Prop := ∃ k n, k ≤ 60 ∧ n ≤ sizeLine ∧ Shw k n d
theorem shown_of {k n : Nat} {d : D} (h : Shw k n d) (hk : k ≤ 60) (hn : n ≤ 1000000) : Shown d := ⟨k, n, hk, by rw [sizeLine_eq]; omega, h⟩
theorem shw_nil : Shw 1 8 (.lst []) := (Shw.lst (k := 0) (n := 0) (xs := []) (fun x hx => by cases hx))
theorem shw_2 {k n : Nat} {x y : D} (hx : Shw k n x) (hy : Shw k n y) : Shw (k + 1) (2 * (n + 2) + 8) (.lst [x, y]) :=
  Shw.lst (xs := [x, y]) fun z hz => by
    rcases List.mem_cons.mp hz with rfl | hz
    · exact hx
    · rw [List.mem_singleton.mp hz]; exact hy
theorem shw_si {x : Str} {i : Int} (hx : ∀ c, c ∈ x.cps.toList → c < 1000) (hl : x.length ≤ 100) (hi : i.natAbs < 2 ^ 1900) : Shw 1 4028 (.lst [.str x, .int i]) :=
  (shw_2 (k := 0) (n := 2008) ((Shw.str hx).mono (Nat.le_refl _) (by omega)) ((Shw.int hi (Nat.le_refl _)).mono (Nat.le_refl _) (by omega)))
theorem shw_ss {x y : Str} (hx : ∀ c, c ∈ x.cps.toList → c < 1000) (hl : x.length ≤ 100) (hy : ∀ c, c ∈ y.cps.toList → c < 1000) (hl' : y.length ≤ 100) : Shw 1 4028 (.lst [.str x, .str y]) :=
  (shw_2 (k := 0) (n := 2008) ((Shw.str hx).mono (Nat.le_refl _) (by omega)) ((Shw.str hy).mono (Nat.le_refl _) (by omega)))
theorem shw_22 {x y : D} (hx : Shw 1 4028 x) (hy : Shw 1 4028 y) : Shown (.lst [x, y]) := shown_of (shw_2 hx hy) (by decide) (by decide)
end BB
namespace BB
open PySem PySem.Spec PyProof.Rows L2
theorem enum_get {α : Type} {f : α → D} {l : List α} {i : Nat} {x : D} (h : (enumD 0 (l.map f))[i]? = some x) : ∃ a, l[i]? = some a ∧ a ∈ l ∧ x = .tup [.int (i : Nat), f a] := by
  have hl : i < l.length := by
    have := (List.getElem?_eq_some_iff.mp h).1
    rwa [enumD_length, List.length_map] at this
  have e := enumD_get 0 i (l.map f) (f l[i]) (by rw [List.getElem?_map, List.getElem?_eq_getElem hl]; rfl)
  rw [h, Nat.zero_add] at e
  exact ⟨l[i], List.getElem?_eq_getElem hl, List.getElem_mem hl, Option.some.inj e⟩
theorem idx_at : ∀ {ns : List Str} {i : Nat} {x : Str}, ns.Nodup → ns[i]? = some x → idxL ns x = i
  | y :: ns, 0, x, _, e => by
    simp at e
    subst e
    unfold idxL
    rw [List.findIdx_cons]
    simp
  | y :: ns, i + 1, x, hn, e => by
    have e' : ns[i]? = some x := by simpa using e
    have ih := idx_at (List.nodup_cons.mp hn).2 e'
    have ne : (y == x) = false := by
      have : y ≠ x := fun z => (List.nodup_cons.mp hn).1 (z ▸ List.mem_of_getElem? e')
      simpa using this
    unfold idxL at ih ⊢
    rw [List.findIdx_cons, ne]
    simp only [cond_false]
    rw [ih]
theorem unit_ints (n k : Nat) : ((List.range n).map fun o : Nat => D.int (if decide (((k : Nat) : Int) = ((o : Nat) : Int)) = true then 1 else 0)) = (unitL n k).map D.int := by
  unfold unitL
  rw [List.map_map]
  rfl
/-- the same list of numbers -/
theorem fEq_same (xs : List Int) (Q : RV → Prop) : fEq true (.lst (xs.map D.int)) (.lst (xs.map D.int)) Q = Q (.v (.bl false)) := by
  rw [show fEq true (.lst (xs.map D.int)) (.lst (xs.map D.int)) Q = fEq true (intsD xs) (intsD xs) Q from rfl, fEq_li]
  simp
end BB
namespace BB
open PySem PySem.Spec PyProof.Rows L2
theorem oks {x : Str} (h : PyData.canLay0 (.str x) = true) : OkS x := h
end BB

namespace BB
open PySem PySem.Spec PyProof.Rows L2
/-- all entries of a level -/
def rowsL (s : Sys) (b lv : Nat) : List (List Int) := (List.range (b ^ lv)).map fun r => (List.range (b ^ lv)).map fun c => entL s b lv r c
def rowsD (s : Sys) (b lv : Nat) : List D := (rowsL s b lv).map intsD
/-- the level has such a row and such a column -/
def InSq (b lv : Nat) (r c : Int) : Prop := (0 ≤ r ∧ r < ((b ^ lv : Nat) : Int)) ∧ (0 ≤ c ∧ c < ((b ^ lv : Nat) : Int))
theorem pow_sz {b lv : Nat} (hb : b ≤ 3) (hl : lv ≤ 6) : b ^ lv ≤ 729 := by
  have h1 : b ^ lv ≤ 3 ^ lv := Nat.pow_le_pow_left hb lv
  have h2 : 3 ^ lv ≤ 3 ^ 6 := Nat.pow_le_pow_right (by decide) hl
  exact Nat.le_trans (Nat.le_trans h1 h2) (by decide)
end BB
namespace BB
open PySem PySem.Spec PyProof.Rows L2
def inSqB (b lv : Nat) (r c : Int) : Bool := (decide (0 ≤ r) && decide (r < ((b ^ lv : Nat) : Int))) && (decide (0 ≤ c) && decide (c < ((b ^ lv : Nat) : Int)))
theorem inSqB_iff {b lv : Nat} {r c : Int} : inSqB b lv r c = true ↔ InSq b lv r c := by
  unfold inSqB InSq
  simp only [Bool.and_eq_true, decide_eq_true_eq]
/-- what a call of entry (w below 2) or written tells of its error -/
def due8 (w b : Nat) (deep r c : Int) : List D := if deep < 0 then [.str "a", .int deep] else if (decide (w < 2) && !inSqB b deep.toNat r c) = true then [.str "b", .tup [.int r, .int c]] else []
theorem due8_neg {w b : Nat} {deep r c : Int} (h : deep < 0) : due8 w b deep r c = [.str "a", .int deep] := if_pos h
theorem due8_far {w b lv : Nat} {r c : Int} (hw : w < 2) (h : ¬ InSq b lv r c) : due8 w b (lv : Nat) r c = [.str "b", .tup [.int r, .int c]] := by
  unfold due8
  rw [if_neg (by omega), Int.toNat_natCast, decide_eq_true hw]
  cases e : inSqB b lv r c with
  | true => exact absurd (inSqB_iff.mp e) h
  | false => rfl
theorem due8_in {w b lv : Nat} {r c : Int} (h : InSq b lv r c) : due8 w b (lv : Nat) r c = [] := by
  unfold due8
  rw [if_neg (by omega), Int.toNat_natCast, inSqB_iff.mpr h]
  simp
theorem due8_wr {w b lv : Nat} {r c : Int} (hw : 2 ≤ w) : due8 w b (lv : Nat) r c = [] := by
  unfold due8
  rw [if_neg (by omega), decide_eq_false (by omega)]
  rfl
end BB
namespace BB
open PySem PySem.Spec PyProof.Rows L2
theorem atI_c5 {α : Type} {x y z w v u : α} {xs : List α} : atI (x :: y :: z :: w :: v :: u :: xs) 5 = some u := atI_nat (u := 5) rfl
theorem pow1030 : CPowA 10 30 := ⟨by decide, by decide +kernel⟩
theorem max_toNat (d : Int) : (if d > 0 then d else 0) = ((d.toNat : Nat) : Int) := by split <;> omega
end BB
namespace BB
open PySem PySem.Spec PyProof.Rows L2
theorem big30 : (10 : Int) ^ Int.toNat 30 = 1000000000000000000000000000000 := by decide +kernel
end BB
namespace BB
open PySem PySem.Spec PyProof.Rows L2
theorem shown_due8 {w b : Nat} {deep r c : Int} (hd : deep.natAbs < 2 ^ 1900) (hr : r.natAbs < 2 ^ 1900) (hc : c.natAbs < 2 ^ 1900) : Shown (.lst (due8 w b deep r c)) := by
  unfold due8
  split
  · exact shown_of (shw_si (by decide) (by decide) hd) (by decide) (by decide)
  split
  · have h1 : Shw 1 3828 (.tup [.int r, .int c]) := (Shw.tup (k := 0) (n := 1908) (xs := [.int r, .int c]) fun z hz => by
      rcases List.mem_cons.mp hz with rfl | hz
      · exact Shw.int hr (Nat.le_refl _)
      · rw [List.mem_singleton.mp hz]; exact Shw.int hc (Nat.le_refl _)).mono (Nat.le_refl _) (show 2 * 1910 + 8 ≤ 3828 by decide)
    have h2 : Shw 1 3828 (.str "b") := (Shw.str (x := "b") (by decide)).mono (by decide) (by decide)
    exact shown_of (shw_2 h2 h1) (by decide) (by decide)
  · exact shown_of shw_nil (by decide) (by decide)
end BB

namespace BB
open PySem PySem.Spec PyProof.Rows L2
def plcD (r c : Int) : D := .tup [.int r, .int c]
/-- what a call of area_sum (w below 2), total_at or trace_at tells of its error -/
def due13 (w b : Nat) (deep r0 c0 r1 c1 : Int) : List D :=
  if deep < 0 then [.str "l", .int deep] else if 1 < w then [] else if inSqB b deep.toNat r0 c0 = false then [.str "p", plcD r0 c0] else if inSqB b deep.toNat r1 c1 = false then [.str "p", plcD r1 c1]
  else if r1 < r0 ∨ c1 < c0 then [.str "a", .tup [plcD r0 c0, plcD r1 c1]] else []
section
variable {w b lv : Nat} {deep r0 c0 r1 c1 : Int}
theorem inSqB_no {r c : Int} (h : ¬ InSq b lv r c) : inSqB b lv r c = false := by
  cases e : inSqB b lv r c with
  | true => exact absurd (inSqB_iff.mp e) h
  | false => rfl
theorem due13_neg (h : deep < 0) : due13 w b deep r0 c0 r1 c1 = [.str "l", .int deep] := if_pos h
theorem due13_w (hw : 1 < w) : due13 w b (lv : Nat) r0 c0 r1 c1 = [] := by
  unfold due13
  rw [if_neg (by omega), if_pos hw]
theorem due13_p0 (hw : ¬ 1 < w) (h : ¬ InSq b lv r0 c0) : due13 w b (lv : Nat) r0 c0 r1 c1 = [.str "p", plcD r0 c0] := by
  unfold due13
  rw [if_neg (by omega), if_neg hw, Int.toNat_natCast, inSqB_no h, if_pos rfl]
theorem due13_p1 (hw : ¬ 1 < w) (h : InSq b lv r0 c0) (h' : ¬ InSq b lv r1 c1) : due13 w b (lv : Nat) r0 c0 r1 c1 = [.str "p", plcD r1 c1] := by
  unfold due13
  rw [if_neg (by omega), if_neg hw, Int.toNat_natCast, inSqB_iff.mpr h, if_neg (by decide), inSqB_no h', if_pos rfl]
theorem due13_a (hw : ¬ 1 < w) (h : InSq b lv r0 c0) (h' : InSq b lv r1 c1) (n : r1 < r0 ∨ c1 < c0) : due13 w b (lv : Nat) r0 c0 r1 c1 = [.str "a", .tup [plcD r0 c0, plcD r1 c1]] := by
  unfold due13
  rw [if_neg (by omega), if_neg hw, Int.toNat_natCast, inSqB_iff.mpr h, if_neg (by decide), inSqB_iff.mpr h', if_neg (by decide), if_pos n]
theorem due13_ok (hw : ¬ 1 < w) (h : InSq b lv r0 c0) (h' : InSq b lv r1 c1) (n : ¬ (r1 < r0 ∨ c1 < c0)) : due13 w b (lv : Nat) r0 c0 r1 c1 = [] := by
  unfold due13
  rw [if_neg (by omega), if_neg hw, Int.toNat_natCast, inSqB_iff.mpr h, if_neg (by decide), inSqB_iff.mpr h', if_neg (by decide), if_neg n]
theorem shw_plc {r c : Int} (hr : r.natAbs < 2 ^ 1900) (hc : c.natAbs < 2 ^ 1900) : Shw 1 3828 (plcD r c) := (Shw.tup (k := 0) (n := 1908) (xs := [.int r, .int c]) fun z hz => by
      rcases List.mem_cons.mp hz with rfl | hz
      · exact Shw.int hr (Nat.le_refl _)
      · rw [List.mem_singleton.mp hz]; exact Shw.int hc (Nat.le_refl _)).mono (Nat.le_refl _) (show 2 * 1910 + 8 ≤ 3828 by decide)
theorem shown_due13 (hd : deep.natAbs < 2 ^ 1900) (h0 : r0.natAbs < 2 ^ 1900) (h1 : c0.natAbs < 2 ^ 1900) (h2 : r1.natAbs < 2 ^ 1900) (h3 : c1.natAbs < 2 ^ 1900) : Shown (.lst (due13 w b deep r0 c0 r1 c1)) := by
  have hs : ∀ x : Str, (∀ c, c ∈ x.cps.toList → c < 1000) → x.length ≤ 300 → Shw 1 3828 (.str x) := fun x h hl => (Shw.str h).mono (by decide) (by omega)
  unfold due13
  split
  · exact shown_of (shw_si (by decide) (by decide) hd) (by decide) (by decide)
  split
  · exact shown_of shw_nil (by decide) (by decide)
  split
  · exact shown_of (shw_2 (hs "p" (by decide) (by decide)) (shw_plc h0 h1)) (by decide) (by decide)
  split
  · exact shown_of (shw_2 (hs "p" (by decide) (by decide)) (shw_plc h2 h3)) (by decide) (by decide)
  split
  · have ht : Shw 2 7668 (.tup [plcD r0 c0, plcD r1 c1]) := (Shw.tup (k := 1) (n := 3828) (xs := [plcD r0 c0, plcD r1 c1]) fun z hz => by
      rcases List.mem_cons.mp hz with rfl | hz
      · exact shw_plc h0 h1
      · rw [List.mem_singleton.mp hz]; exact shw_plc h2 h3).mono (Nat.le_refl _) (show 2 * 3830 + 8 ≤ 7668 by decide)
    exact shown_of (shw_2 ((hs "a" (by decide) (by decide)).mono (by decide) (by decide)) ht) (by decide) (by decide)
  · exact shown_of shw_nil (by decide) (by decide)
end
end BB

namespace BB
open PySem PySem.Spec PyProof.Rows L2
theorem val_mod {b : Nat} {ls : List Line} (hb : 0 < b) (r c t : Nat) : valN b ls r c t = valN b ls (r % b ^ t) (c % b ^ t) t := by
  have h := val_shift (ls := ls) (d := t) (u := r / b ^ t) (v := c / b ^ t) (x := r % b ^ t) (y := c % b ^ t) hb t (Nat.le_refl t)
  rw [Nat.mul_comm, Nat.div_add_mod, Nat.mul_comm (c / b ^ t), Nat.div_add_mod] at h
  exact h
theorem val_step {b : Nat} {ls : List Line} (hb : 0 < b) {L : Line} (hn : (nmsOf ls).Nodup) (hL : L ∈ ls) {r c t : Nat} (hr : r < b ^ (t + 1)) (hc : c < b ^ (t + 1)) :
    valN b ls r c (t + 1) L.1 = formV (valN b ls (r % b ^ t) (c % b ^ t) t) (formAt L.2.2 ((r / b ^ t : Nat) : Int) ((c / b ^ t : Nat) : Int)) := by
  have h1 : r / b ^ t < b := Nat.div_lt_of_lt_mul (by rw [← Nat.pow_succ]; exact hr)
  have h2 : c / b ^ t < b := Nat.div_lt_of_lt_mul (by rw [← Nat.pow_succ]; exact hc)
  rw [valN_form, find_of hn hL, ← val_mod hb, Nat.mod_eq_of_lt h1, Nat.mod_eq_of_lt h2]
/-- the entries of a named table at a level -/
def valR (b : Nat) (ls : List Line) (t : Nat) (x : Str) : List (List Int) := (List.range (b ^ t)).map fun r => (List.range (b ^ t)).map fun c => valN b ls r c t x
def valRD (b : Nat) (ls : List Line) (t : Nat) (x : Str) : D := .lst ((valR b ls t x).map intsD)
/-- all of them, by names -/
def wrD (b : Nat) (ls : List Line) (t : Nat) : List (Key × D) := (nmsOf ls).map fun x => (Sum.inr x, valRD b ls t x)
theorem put_new {ns : List Str} {f : Str → D} {y : Str} (h : y ∉ ns) (d : D) : putD (ns.map fun x => ((Sum.inr x : Key), f x)) (.inr y) d = (ns.map fun x => (Sum.inr x, f x)) ++ [(.inr y, d)] := by
  unfold putD
  rw [if_neg]
  intro z
  rw [List.any_map, List.any_eq_true] at z
  obtain ⟨x, hx, e⟩ := z
  have e2 : (Sum.inr x : Key) = Sum.inr y := of_decide_eq_true e
  cases e2
  exact h hx
theorem take_names {ls : List Line} {i : Nat} {L : Line} (hn : (nmsOf ls).Nodup) (h : ls[i]? = some L) : L.1 ∉ nmsOf (ls.take i) := fun hm => by
  unfold nmsOf at hm
  rw [List.map_take] at hm
  obtain ⟨j, hj⟩ := List.getElem?_of_mem hm
  have hji : j < i := by
    have := (List.getElem?_eq_some_iff.mp hj).1
    rw [List.length_take] at this
    omega
  rw [List.getElem?_take_of_lt hji] at hj
  have e1 : idxL (nmsOf ls) L.1 = j := idx_at hn hj
  have e2 : idxL (nmsOf ls) L.1 = i := idx_at hn (by unfold nmsOf; rw [List.getElem?_map, h]; rfl)
  omega
theorem take_nms {ls : List Line} {i : Nat} {L : Line} (h : ls[i]? = some L) : nmsOf (ls.take (i + 1)) = nmsOf (ls.take i) ++ [L.1] := by
  unfold nmsOf
  rw [List.take_add_one, h, List.map_append]
  rfl
theorem valR_row {b : Nat} {ls : List Line} {t r : Nat} {x : Str} (h : r < b ^ t) : atI ((valR b ls t x).map intsD) ((r : Nat) : Int) = some (intsD ((List.range (b ^ t)).map fun c => valN b ls r c t x)) := by
  refine BB.atI_nat ?_
  unfold valR
  rw [List.map_map, List.getElem?_map, List.getElem?_range h]
  rfl
theorem row_cell {n c : Nat} {f : Nat → Int} (h : c < n) : atI (((List.range n).map f).map D.int) ((c : Nat) : Int) = some (.int (f c)) := by
  refine BB.atI_nat ?_
  rw [List.map_map, List.getElem?_map, List.getElem?_range h]
  rfl
end BB
namespace BB
open PySem PySem.Spec PyProof.Rows L2
def wrP (b : Nat) (ls : List Line) (ns : List Str) (t : Nat) : List (Key × D) := ns.map fun x => (Sum.inr x, valRD b ls t x)
theorem wrP_all (b : Nat) (ls : List Line) (t : Nat) : wrP b ls (nmsOf ls) t = wrD b ls t := rfl
theorem wrP_put {b : Nat} {ls : List Line} {i t : Nat} {L : Line} (hn : (nmsOf ls).Nodup) (h : ls[i]? = some L) : putD (wrP b ls (nmsOf (ls.take i)) t) (.inr L.1) (valRD b ls t L.1) = wrP b ls (nmsOf (ls.take (i + 1))) t := by
  unfold wrP
  rw [put_new (f := valRD b ls t) (take_names hn h), take_nms h, List.map_append]
  rfl
theorem wrP_len {b : Nat} {ls : List Line} {i t : Nat} (h6 : ls.length ≤ 6) : (wrP b ls (nmsOf (ls.take i)) t).length < sizeLine := by
  unfold wrP nmsOf
  rw [List.length_map, List.length_map, List.length_take, sizeLine_eq]
  omega
theorem valRD_0 {b : Nat} {ls : List Line} {L : Line} (hn : (nmsOf ls).Nodup) (h : L ∈ ls) : valRD b ls 0 L.1 = .lst [.lst [.int L.2.1]] := by
  unfold valRD valR
  rw [Nat.pow_zero]
  show D.lst [.lst [.int (findL ls L.1).2.1]] = _
  rw [find_of hn h]
theorem val_wr {b : Nat} {ls : List Line} {t : Nat} {x : Str} (h : x ∈ nmsOf ls) : valD (wrD b ls t) (.inr x) = some (valRD b ls t x) := val_map h
/-- one row of a level -/
def rowR (b : Nat) (ls : List Line) (t : Nat) (x : Str) (r : Nat) : Nat → Int := fun c => valN b ls r c t x
end BB
namespace BB
open PySem PySem.Spec PyProof.Rows L2
theorem cdivN {i : Int} {n : Nat} (h1 : 1 ≤ n) (h2 : n ≤ 1000) : CDivA i ((n : Nat) : Int) := ⟨by omega, by have := log_len h1 h2; exact this⟩
end BB
namespace BB
open PySem PySem.Spec PyProof.Rows L2
/-- a dict is handed out, new or not -/
def TellsK (r : RV) (kvs : List (Key × D)) : Prop := r = .v (.dic kvs) ∨ r = .o (.od kvs)
theorem atI_range {n i : Nat} (h : i < n) : atI (List.range n) ((i : Nat) : Int) = some i := BB.atI_nat (List.getElem?_range h)
end BB

namespace BB
open PySem PySem.Spec PyProof.Rows L2
section
variable {X : Cx} {K : PySem.W.Frag} {F F' G G' H H' : Hp} {fx : List (Nat × Addr)} {W : WX} {ρ : DE} {σ : L2.St} {pos : Pos} {a b : Expr}
theorem gx_grow {r : RV} {v : V} (k : RvOk K F G H ρ σ r v) (s : Same H H') : gx r v G H' = gx r v G H := by
  cases r with
  | v d => rfl
  | sl i => rfl
  | t x =>
    funext b
    by_cases hb : x.at (some (some v)) b
    · obtain ⟨o, k1, _⟩ := k.1.cell hb
      rw [gx_t_at hb, gx_t_at hb, k1, s _ _ k1]
    · rw [gx_t_off hb, gx_t_off hb]
  | gr _ _ => rfl
  | o x =>
    obtain ⟨_, p, o, rfl, h, _⟩ := k
    simp only [gx, h, s _ _ h]
theorem RvOk.grow {r : RV} {v : V} (k : RvOk K F G H ρ σ r v) (s : Same H H') : RvOk K F G H' ρ σ r v := by
  cases r with
  | v d => exact k
  | sl i => exact k
  | gr _ _ => exact k
  | t x =>
    refine ⟨k.1.move (Same.refl F) fun a ha => ?_, k.2⟩
    obtain ⟨o, k2, k3, k4, _⟩ := k.1.cell ha
    exact ⟨k3, k4, by rw [k2]; exact s _ _ k2⟩
  | o x =>
    obtain ⟨h1, p, o, e, h2, h3⟩ := k
    exact ⟨h1, p, o, e, s _ _ h2, h3⟩
theorem RvsOk.grow (s : Same H H') : ∀ {rs : List RV} {vs : List V} {G : Hp}, RvsOk K F H ρ σ G rs vs → RvsOk K F H' ρ σ G rs vs
  | [], [], _, h => h
  | r :: rs, v :: vs, G, ⟨h1, h2, h3⟩ => ⟨h1, h2.grow s, by rw [gx_grow h2 s]; exact RvsOk.grow s h3⟩
  | [], _ :: _, _, h => h.elim
  | _ :: _, [], _, h => h.elim
/-- a, b = x, y, one of a, b a cell: by way of a tuple -/
theorem ss_parT2 (i j : Nat) {x y : Str} {px py pt : Pos} {kt k2 pt2} {mr : MR} (hc : X.calm = true) (hN : X.N.Nodup) (hm : ER X fx W [a, b] mr) (hi : X.N[i]? = some x := by rfl) (hj : X.N[j]? = some y := by rfl)
    (hx : Loc X.env.scope x := by first | exact Or.inl rfl | exact Or.inr rfl) (hy : Loc X.env.scope y := by first | exact Or.inl rfl | exact Or.inr rfl)
    (hfx : X.fn x = true ∨ X.env.scope.names.lookup x = some .local := by first | exact .inl rfl | exact .inr rfl | assumption) (hfy : X.fn y = true ∨ X.env.scope.names.lookup y = some .local := by first | exact .inl rfl | exact .inr rfl | assumption)
    (hf : [i, j].all (fxOk fx) = true := by rfl)
    (hs : swapsWithSole [.Tuple [.Name x px, .Name y py] kt pt] (.Tuple [a, b] k2 pt2) pos.line X.env = pure false := by rfl) (hw : swappedStores [.Tuple [.Name x px, .Name y py] kt pt] (.Tuple [a, b] k2 pt2) X.env = pure none := by rfl)
    (h1 : (assignEach [.Tuple [.Name x px, .Name y py] kt pt] X.env).map (·.2) = [assign (.Tuple [.Name x px, .Name y py] kt pt) X.env] := by rfl)
    (hn : (assignEach [Expr.Name x px, .Name y py] X.env).length = 2 := by rfl) (hst : (assignEach [Expr.Name x px, .Name y py] X.env).findIdx? (·.1) = none := by rfl)
    (g1 : (assignEach [Expr.Name x px, .Name y py] X.env).map (·.2) = assign (.Name x px) X.env :: (assignEach [Expr.Name y py] X.env).map (·.2) := by rfl)
    (g2 : (assignEach [Expr.Name y py] X.env).map (·.2) = assign (.Name y py) X.env :: (assignEach [] X.env).map (·.2) := by rfl) :
    SS X fx W (.Assign [.Tuple [.Name x px, .Name y py] kt pt] (.Tuple [a, b] k2 pt2) pos) (sPar [i, j] mr) := by
  refine ps_imp (ps_asg (pe_tup hm) (pg_tup hc (pgs_cons (pg_name hN hi hx hfx) (pgs_cons (pg_name hN hj hy hfy) pgs_nil g2) g1) hn hst) hs hw h1) fun D σ H ⟨F, G, ρ, E0, R, h, k⟩ => ⟨F, G, ρ, _, _, R, h, fun rs ρ1 h1 F1 H1 vs s1 R1 k1 => ?_, k.ex σ⟩
  have h0 := bindRs_ok (k.nx.mono s1) hf R1 k1 h1
  match vs, h0.1, k1 with
  | [v, w], _, k1 =>
    refine ⟨by rw [sizeLine_eq]; show 2 ≤ _; decide, fun p hp => ?_⟩
    have sm : Same H1 (upd H1 p (.tup [v, w])) := fun b u e => by rw [upd_ne (ne_of_none e hp)]; exact e
    obtain ⟨R2, _⟩ := R1.new (o := .tup [v, w]) hp
    obtain ⟨_, z2⟩ := bindRs_ok (k.nx.mono s1) hf R2 (k1.grow sm) h1
    exact ⟨p, [v, w], rfl, .inl (.inl upd_same), rfl, v, [w], rfl, w, [], rfl, rfl, z2⟩
end
end BB

namespace BB
open PySem PySem.Spec PyProof.Rows L2
/-! ### corners are sums of entries -/
def S1 (f : Nat → Int) (n : Nat) : Int := ((List.range n).map f).sum
def Sg (f : Nat → Nat → Int) (R C : Nat) : Int := S1 (fun r => S1 (fun c => f r c) C) R
theorem S1_0 (f : Nat → Int) : S1 f 0 = 0 := rfl
theorem S1_s (f : Nat → Int) (n : Nat) : S1 f (n + 1) = S1 f n + f n := by
  unfold S1
  rw [List.range_succ, List.map_append, List.sum_append]
  simp
theorem S1_congr {f g : Nat → Int} : ∀ {n : Nat}, (∀ i, i < n → f i = g i) → S1 f n = S1 g n
  | 0, _ => rfl
  | n + 1, h => by rw [S1_s, S1_s, S1_congr fun i hi => h i (by omega), h n (by omega)]
theorem S1_add (f : Nat → Int) (n : Nat) : ∀ m, S1 f (n + m) = S1 f n + S1 (fun i => f (n + i)) m
  | 0 => by rw [S1_0, Nat.add_zero]; omega
  | m + 1 => by
    rw [← Nat.add_assoc, S1_s, S1_add f n m, S1_s]
    omega
theorem S1_lin (f g : Nat → Int) : ∀ n, S1 (fun i => f i + g i) n = S1 f n + S1 g n
  | 0 => rfl
  | n + 1 => by
    rw [S1_s, S1_s, S1_s, S1_lin f g n]
    omega
theorem S1_zero : ∀ n, S1 (fun _ => 0) n = 0
  | 0 => rfl
  | n + 1 => by rw [S1_s, S1_zero n]; rfl
theorem S1_swap (f : Nat → Nat → Int) (m : Nat) : ∀ n, S1 (fun x => S1 (fun y => f x y) m) n = S1 (fun y => S1 (fun x => f x y) n) m
  | 0 => by rw [S1_0, show (fun y => S1 (fun x => f x y) 0) = fun _ => 0 from rfl, S1_zero]
  | n + 1 => by
    rw [S1_s, S1_swap f m n, ← S1_lin]
    exact S1_congr fun y _ => (S1_s (fun x => f x y) n).symm
theorem S1_mul (f : Nat → Int) (B : Nat) : ∀ h, S1 f (h * B) = S1 (fun u => S1 (fun r => f (u * B + r)) B) h
  | 0 => by rw [Nat.zero_mul]; rfl
  | h + 1 => by rw [Nat.succ_mul, S1_add, S1_s, S1_mul f B h]
theorem Sg_congr {f g : Nat → Nat → Int} {R C : Nat} (h : ∀ r c, r < R → c < C → f r c = g r c) : Sg f R C = Sg g R C := S1_congr fun r hr => S1_congr fun c hc => h r c hr hc
section
variable (f : Nat → Nat → Int) (B : Nat)
theorem Sg_rows (R1 R2 C : Nat) : Sg f (R1 + R2) C = Sg f R1 C + Sg (fun r c => f (R1 + r) c) R2 C := S1_add _ _ _
theorem Sg_cols (R C1 C2 : Nat) : Sg f R (C1 + C2) = Sg f R C1 + Sg (fun r c => f r (C1 + c)) R C2 := by
  unfold Sg
  rw [← S1_lin]
  exact S1_congr fun r _ => S1_add _ _ _
/-- one row of blocks -/
theorem Sg_blkR (R W : Nat) : S1 (fun l => Sg (fun r c => f r (l * B + c)) R B) W = Sg f R (W * B) := by
  unfold Sg
  rw [S1_swap]
  exact S1_congr fun r _ => (S1_mul (fun c => f r c) B W).symm
/-- one column of blocks -/
theorem Sg_blkC (C H : Nat) : S1 (fun u => Sg (fun r c => f (u * B + r) c) B C) H = Sg f (H * B) C := (S1_mul (fun r => S1 (fun c => f r c) C) B H).symm
theorem Sg_blks (H W : Nat) : S1 (fun u => S1 (fun l => Sg (fun r c => f (u * B + r) (l * B + c)) B B) W) H = Sg f (H * B) (W * B) := by
  rw [← Sg_blkC]
  exact S1_congr fun u _ => Sg_blkR (fun r c => f (u * B + r) c) B B W
end
/-! ### vectors -/
theorem dot_comm : ∀ xs ys : List Int, dotL xs ys = dotL ys xs
  | [], [] => rfl
  | [], _ :: _ => rfl
  | _ :: _, [] => rfl
  | x :: xs, y :: ys => by
    have ih := dot_comm xs ys
    unfold dotL at ih ⊢
    rw [List.zipWith_cons_cons, List.zipWith_cons_cons, List.sum_cons, List.sum_cons, ih, Int.mul_comm]
theorem dot_add : ∀ {w x y : List Int}, x.length = y.length → dotL w (addL x y) = dotL w x + dotL w y
  | [], x, y, _ => by
    unfold dotL
    simp
  | a :: w, [], [], _ => by
    unfold dotL addL
    simp
  | a :: w, x :: xs, y :: ys, h => by
    have ih := dot_add (w := w) (x := xs) (y := ys) (by simpa using h)
    unfold dotL addL at ih ⊢
    rw [List.zipWith_cons_cons, List.zipWith_cons_cons, List.zipWith_cons_cons, List.zipWith_cons_cons, List.sum_cons, List.sum_cons, List.sum_cons, ih, Int.mul_add]
    omega
  | _ :: _, [], _ :: _, h => by simp at h
  | _ :: _, _ :: _, [], h => by simp at h
theorem dot_scl (a : Int) : ∀ xs ys : List Int, dotL (xs.map fun x => a * x) ys = a * dotL xs ys
  | [], ys => by
    unfold dotL
    simp
  | x :: xs, [] => by
    unfold dotL
    simp
  | x :: xs, y :: ys => by
    have ih := dot_scl a xs ys
    unfold dotL at ih ⊢
    rw [List.map_cons, List.zipWith_cons_cons, List.zipWith_cons_cons, List.sum_cons, List.sum_cons, ih, Int.mul_add, Int.mul_assoc]
theorem dot_rep0 (w : List Int) (n : Nat) : dotL w (List.replicate n 0) = 0 := by rw [dot_comm, dot_zero]
/-- a weight ahead of a matrix -/
theorem dot_mat {n : Nat} : ∀ (m : List (List Int)) (w : List Int), (∀ line, line ∈ m → line.length = n) → ∃ w' : List Int, w'.length = n ∧ ∀ x : List Int, dotL w (m.map fun line => dotL line x) = dotL w' x
  | [], w, _ => ⟨List.replicate n 0, List.length_replicate, fun x => by
      rw [dot_zero, List.map_nil]
      unfold dotL
      simp⟩
  | _ :: _, [], _ => ⟨List.replicate n 0, List.length_replicate, fun x => by
      rw [dot_zero]
      unfold dotL
      simp⟩
  | line :: m, a :: w, h => by
    obtain ⟨w', hl, hw⟩ := dot_mat m w fun l hl => h l (List.mem_cons_of_mem _ hl)
    have h0 := h line List.mem_cons_self
    have hlen : (line.map fun x => a * x).length = w'.length := by rw [List.length_map, h0, hl]
    refine ⟨addL (line.map fun x => a * x) w', by rw [addL_len, List.length_map, h0, hl, Nat.min_self], fun x => ?_⟩
    rw [dot_comm (addL _ _), dot_add hlen, dot_comm x, dot_comm x, dot_scl, ← hw x]
    unfold dotL
    rw [List.map_cons, List.zipWith_cons_cons, List.sum_cons]
section
variable {s : Sys} {n a b : Nat}
theorem fol_len (hs : SysOk s n a) {v : List Int} {p : Int × Int} (hp : InB s p) : (folL s v p).length = n := by
  obtain ⟨r, _, _, h3, _⟩ := hs.at hp
  unfold folL
  rw [List.length_map]
  exact h3
theorem from_len (hs : SysOk s n a) {v : List Int} : ∀ {ps : List (Int × Int)} {acc : List Int}, (∀ p, p ∈ ps → InB s p) → acc.length = n → (sumsFrom s v ps acc).length = n
  | [], acc, _, h => h
  | p :: ps, acc, hp, h => from_len hs (ps := ps) (acc := addL acc (folL s v p)) (fun q hq => hp q (List.mem_cons_of_mem _ hq)) (by rw [addL_len, h, fol_len hs (hp p List.mem_cons_self), Nat.min_self])
theorem from_dot (hs : SysOk s n a) {v : List Int} (w : List Int) : ∀ {ps : List (Int × Int)} {acc : List Int}, (∀ p, p ∈ ps → InB s p) → acc.length = n → dotL w (sumsFrom s v ps acc) = dotL w acc + (ps.map fun p => dotL w (folL s v p)).sum
  | [], acc, _, h => by
    show dotL w acc = _
    simp
  | p :: ps, acc, hp, h => by
    have hf := fol_len hs (v := v) (hp p List.mem_cons_self)
    have ih := from_dot hs (v := v) w (ps := ps) (acc := addL acc (folL s v p)) (fun q hq => hp q (List.mem_cons_of_mem _ hq)) (by rw [addL_len, h, hf, Nat.min_self])
    show dotL w (sumsFrom s v ps (addL acc (folL s v p))) = _
    rw [ih, dot_add (by rw [h, hf]), List.map_cons, List.sum_cons]
    omega
theorem sums_dot (hs : SysOk s n a) {v : List Int} (hv : v.length = n) (w : List Int) {ps : List (Int × Int)} (hp : ∀ p, p ∈ ps → InB s p) : (sumsL s ps v).length = n ∧ dotL w (sumsL s ps v) = (ps.map fun p => dotL w (folL s v p)).sum := by
  have hl : (List.replicate v.length (0 : Int)).length = n := by rw [List.length_replicate]; exact hv
  refine ⟨from_len hs hp hl, ?_⟩
  unfold sumsL
  rw [from_dot hs w hp hl, dot_rep0]
  omega
/-- the columns shifted into a block -/
theorem col_low (hb : 0 < b) {d u x v y : Nat} : ∀ t, t ≤ d → colN s b (u * b ^ d + x) (v * b ^ d + y) t = colN s b x y t
  | 0, _ => rfl
  | t + 1, h => by
    unfold colN
    rw [col_low hb t (by omega), dig_low hb (by omega), dig_low hb (by omega)]
theorem col_up (hb : 0 < b) {d u x v y : Nat} (hu : u < b) (hv : v < b) (hx : x < b ^ d) (hy : y < b ^ d) : colN s b (u * b ^ d + x) (v * b ^ d + y) (d + 1) = folL s (colN s b x y d) ((u : Nat), (v : Nat)) := by
  show folL s (colN s b (u * b ^ d + x) (v * b ^ d + y) d) _ = _
  rw [col_low hb d (Nat.le_refl d), dig_top hb hu hx, dig_top hb hv hy]
/-- v holds the sum of the columns of the first R rows and C columns of the level t -/
structure Rp (s : Sys) (b n t : Nat) (v : List Int) (R C : Nat) : Prop where
  len : v.length = n
  eq : ∀ w : List Int, dotL w v = Sg (fun r c => dotL w (colN s b r c t)) R C
theorem Rp.fol (hs : SysOk s n a) (hm : s.mats.length = b) (hb : 0 < b) {t R C : Nat} {v : List Int} (h : Rp s b n t v R C) (hR : R ≤ b ^ t) (hC : C ≤ b ^ t) {u l : Nat} (hu : u < b) (hl : l < b) (w : List Int) :
    dotL w (folL s v ((u : Nat), (l : Nat))) = Sg (fun r c => dotL w (colN s b (u * b ^ t + r) (l * b ^ t + c) (t + 1))) R C := by
  have hp : InB s (((u : Nat) : Int), ((l : Nat) : Int)) := ⟨by simp, by simp only [hm]; omega, by simp, by simp only [hm]; omega⟩
  obtain ⟨r0, _, _, _, h4⟩ := hs.at hp
  obtain ⟨w', _, hw⟩ := dot_mat (n := n) (matAt s (u : Nat) (l : Nat)) w fun line hl => (h4 line hl).1
  have hw2 : ∀ x, dotL w (folL s x ((u : Nat), (l : Nat))) = dotL w' x := fun x => hw x
  rw [hw2, h.eq w']
  refine Sg_congr fun r c hr hc => ?_
  rw [col_up hb hu hl (by omega) (by omega), hw2]
theorem plR_sum (φ : Int × Int → Int) (h w : Nat) : ((plR h w).map φ).sum = S1 (fun u => S1 (fun l => φ ((u : Nat), (l : Nat))) w) h := by
  unfold plR S1
  induction List.range h with
  | nil => rfl
  | cons x xs ih =>
    rw [List.flatMap_cons, List.map_append, List.sum_append, ih, List.map_cons, List.sum_cons, List.map_map]
    rfl
theorem pl1_sum (φ : Int × Int → Int) (u w : Nat) : ((pl1 u w).map φ).sum = S1 (fun l => φ ((u : Nat), (l : Nat))) w := by
  unfold pl1 S1
  rw [List.map_map]
  rfl
theorem pl2_sum (φ : Int × Int → Int) (h l : Nat) : ((pl2 h l).map φ).sum = S1 (fun u => φ ((u : Nat), (l : Nat))) h := by
  unfold pl2 S1
  rw [List.map_map]
  rfl
/-- the four sums of a corner at a step -/
structure CorRp (s : Sys) (b n R C t : Nat) (c : Cor) : Prop where
  fw : Rp s b n t c.whole (b ^ t) (b ^ t)
  fu : Rp s b n t c.upper (R % b ^ t) (b ^ t)
  fl : Rp s b n t c.left (b ^ t) (C % b ^ t)
  fb : Rp s b n t c.both (R % b ^ t) (C % b ^ t)
  fd : c.down = R / b ^ t
  fa : c.along = C / b ^ t
theorem mod_up (R b t : Nat) : R % b ^ (t + 1) = R / b ^ t % b * b ^ t + R % b ^ t := by
  rw [Nat.mod_pow_succ, Nat.mul_comm]
  omega
theorem addL_rp {x y : List Int} (hx : x.length = n) (hy : y.length = n) : (addL x y).length = n := by rw [addL_len, hx, hy, Nat.min_self]
theorem CorRp.step (hs : SysOk s n a) (hm : s.mats.length = b) (hb : 0 < b) {R C t : Nat} {c : Cor} (h : CorRp s b n R C t c) : CorRp s b n R C (t + 1) (corStep s b c) := by
  have hB : 0 < b ^ t := Nat.pow_pos hb
  have hh : c.down % b < b := Nat.mod_lt _ hb
  have hw : c.along % b < b := Nat.mod_lt _ hb
  have hR := Nat.le_of_lt (Nat.mod_lt R hB)
  have hC := Nat.le_of_lt (Nat.mod_lt C hB)
  have eR : R % b ^ (t + 1) = c.down % b * b ^ t + R % b ^ t := by rw [h.fd, mod_up]
  have eC : C % b ^ (t + 1) = c.along % b * b ^ t + C % b ^ t := by rw [h.fa, mod_up]
  have eB : b ^ (t + 1) = b * b ^ t := by rw [Nat.pow_succ, Nat.mul_comm]
  generalize hhd : c.down % b = H at hh eR
  generalize hwd : c.along % b = W at hw eC
  -- what sums over blocks are
  have A : ∀ H W, H ≤ b → W ≤ b → ∀ w : List Int, ((plR H W).map fun p => dotL w (folL s c.whole p)).sum = Sg (fun r c => dotL w (colN s b r c (t + 1))) (H * b ^ t) (W * b ^ t) := fun H W h1 h2 w => by
    rw [plR_sum, ← Sg_blks]
    exact S1_congr fun u hu => S1_congr fun l hl => h.fw.fol hs hm hb (Nat.le_refl _) (Nat.le_refl _) (by omega) (by omega) w
  have Bq : ∀ H W, H < b → W ≤ b → ∀ w : List Int, ((pl1 H W).map fun p => dotL w (folL s c.upper p)).sum = Sg (fun r c => dotL w (colN s b (H * b ^ t + r) c (t + 1))) (R % b ^ t) (W * b ^ t) := fun H W h1 h2 w => by
    rw [pl1_sum, ← Sg_blkR]
    exact S1_congr fun l hl => h.fu.fol hs hm hb hR (Nat.le_refl _) h1 (by omega) w
  have Cq : ∀ H W, H ≤ b → W < b → ∀ w : List Int, ((pl2 H W).map fun p => dotL w (folL s c.left p)).sum = Sg (fun r c => dotL w (colN s b r (W * b ^ t + c) (t + 1))) (H * b ^ t) (C % b ^ t) := fun H W h1 h2 w => by
    rw [pl2_sum, ← Sg_blkC]
    exact S1_congr fun u hu => h.fl.fol hs hm hb (Nat.le_refl _) hC (by omega) h2 w
  have iR : ∀ {H W : Nat}, H ≤ b → W ≤ b → ∀ p, p ∈ plR H W → InB s p := fun h1 h2 p hp => plR_in hm h1 h2 hp
  have i1 : ∀ {H W : Nat}, H < b → W ≤ b → ∀ p, p ∈ pl1 H W → InB s p := fun h1 h2 p hp => pl1_in hm h1 h2 hp
  have i2 : ∀ {H W : Nat}, H ≤ b → W < b → ∀ p, p ∈ pl2 H W → InB s p := fun h1 h2 p hp => pl2_in hm h2 h1 hp
  refine ⟨?_, ?_, ?_, ?_, ?_, ?_⟩
  · have := fun w => sums_dot hs h.fw.len w (iR (Nat.le_refl b) (Nat.le_refl b))
    refine ⟨(this []).1, fun w => ?_⟩
    show dotL w (sumsL s (plR b b) c.whole) = _
    rw [(this w).2, A b b (Nat.le_refl b) (Nat.le_refl b), eB]
  · have q1 := fun w => sums_dot hs h.fw.len w (iR (Nat.le_of_lt hh) (Nat.le_refl b))
    have q2 := fun w => sums_dot hs h.fu.len w (i1 hh (Nat.le_refl b))
    refine ⟨?_, fun w => ?_⟩
    · show (addL (sumsL s (plR (c.down % b) b) c.whole) (sumsL s (pl1 (c.down % b) b) c.upper)).length = n
      rw [hhd]
      exact addL_rp (q1 []).1 (q2 []).1
    · show dotL w (addL (sumsL s (plR (c.down % b) b) c.whole) (sumsL s (pl1 (c.down % b) b) c.upper)) = _
      rw [hhd, dot_add (by rw [(q1 []).1, (q2 []).1]), (q1 w).2, (q2 w).2, A H b (Nat.le_of_lt hh) (Nat.le_refl b), Bq H b hh (Nat.le_refl b), eR, eB, Sg_rows]
  · have q1 := fun w => sums_dot hs h.fw.len w (iR (Nat.le_refl b) (Nat.le_of_lt hw))
    have q2 := fun w => sums_dot hs h.fl.len w (i2 (Nat.le_refl b) hw)
    refine ⟨?_, fun w => ?_⟩
    · show (addL (sumsL s (plR b (c.along % b)) c.whole) (sumsL s (pl2 b (c.along % b)) c.left)).length = n
      rw [hwd]
      exact addL_rp (q1 []).1 (q2 []).1
    · show dotL w (addL (sumsL s (plR b (c.along % b)) c.whole) (sumsL s (pl2 b (c.along % b)) c.left)) = _
      rw [hwd, dot_add (by rw [(q1 []).1, (q2 []).1]), (q1 w).2, (q2 w).2, A b W (Nat.le_refl b) (Nat.le_of_lt hw), Cq b W (Nat.le_refl b) hw, eC, eB, Sg_cols]
  · have q1 := fun w => sums_dot hs h.fw.len w (iR (Nat.le_of_lt hh) (Nat.le_of_lt hw))
    have q2 := fun w => sums_dot hs h.fu.len w (i1 hh (Nat.le_of_lt hw))
    have q3 := fun w => sums_dot hs h.fl.len w (i2 (Nat.le_of_lt hh) hw)
    have hp : InB s (((H : Nat) : Int), ((W : Nat) : Int)) := ⟨by simp, by simp only [hm]; omega, by simp, by simp only [hm]; omega⟩
    have q4 := fol_len hs (v := c.both) hp
    have l1 := addL_rp (q1 []).1 (q2 []).1
    have l2 := addL_rp l1 (q3 []).1
    refine ⟨?_, fun w => ?_⟩
    · show (addL (addL (addL (sumsL s (plR (c.down % b) (c.along % b)) c.whole) (sumsL s (pl1 (c.down % b) (c.along % b)) c.upper)) (sumsL s (pl2 (c.down % b) (c.along % b)) c.left)) (folL s c.both (((c.down % b : Nat) : Int), ((c.along % b : Nat) : Int)))).length = n
      rw [hhd, hwd]
      exact addL_rp l2 q4
    · show dotL w (addL (addL (addL (sumsL s (plR (c.down % b) (c.along % b)) c.whole) (sumsL s (pl1 (c.down % b) (c.along % b)) c.upper)) (sumsL s (pl2 (c.down % b) (c.along % b)) c.left)) (folL s c.both (((c.down % b : Nat) : Int), ((c.along % b : Nat) : Int)))) = _
      rw [hhd, hwd, dot_add (by rw [l2, q4]), dot_add (by rw [l1, (q3 []).1]), dot_add (by rw [(q1 []).1, (q2 []).1]), (q1 w).2, (q2 w).2, (q3 w).2, A H W (Nat.le_of_lt hh) (Nat.le_of_lt hw), Bq H W hh (Nat.le_of_lt hw), Cq H W (Nat.le_of_lt hh) hw,
        h.fb.fol hs hm hb hR hC hh hw w, eR, eC, Sg_rows, Sg_cols, Sg_cols]
      omega
  · show c.down / b = _
    rw [h.fd, Nat.pow_succ, Nat.div_div_eq_div_mul]
  · show c.along / b = _
    rw [h.fa, Nat.pow_succ, Nat.div_div_eq_div_mul]
theorem cor_rp (hs : SysOk s n a) (hm : s.mats.length = b) (hb : 0 < b) (R C : Nat) : ∀ t, CorRp s b n R C t (corN s b R C t)
  | 0 => by
    have z : ∀ x y : Nat, x = 0 ∨ y = 0 → Rp s b n 0 (List.replicate s.starts.length 0) x y := fun x y h => ⟨by rw [List.length_replicate]; exact hs.st, fun w => by
      rw [dot_rep0]
      rcases h with rfl | rfl
      · rfl
      · unfold Sg
        rw [show (fun r => S1 (fun c => dotL w (colN s b r c 0)) 0) = fun _ => 0 from rfl, S1_zero]⟩
    refine ⟨⟨hs.st, fun w => ?_⟩, ?_, ?_, ?_, ?_, ?_⟩
    · rw [Nat.pow_zero]
      unfold Sg
      rw [S1_s, S1_0, S1_s, S1_0]
      show dotL w s.starts = 0 + (0 + dotL w s.starts)
      omega
    · rw [Nat.pow_zero, Nat.mod_one]; exact z _ _ (.inl rfl)
    · rw [Nat.pow_zero, Nat.mod_one]; exact z _ _ (.inr rfl)
    · rw [Nat.pow_zero, Nat.mod_one]; exact z _ _ (.inl rfl)
    · rw [Nat.pow_zero, Nat.div_one]; rfl
    · rw [Nat.pow_zero, Nat.div_one]; rfl
  | t + 1 => (cor_rp hs hm hb R C t).step hs hm hb
theorem corn_sum (hs : SysOk s n a) (hm : s.mats.length = b) (hb : 0 < b) {R C lv : Nat} (hR : R ≤ b ^ lv) (hC : C ≤ b ^ lv) : cornL s b lv R C = Sg (fun r c => entL s b lv r c) R C := by
  have h := cor_rp hs hm hb R C lv
  have hB : 0 < b ^ lv := Nat.pow_pos hb
  unfold cornL corEnd
  rw [h.fd, h.fa]
  have top : ∀ X : Nat, X ≤ b ^ lv → 0 < X / b ^ lv → X = b ^ lv := fun X h1 h2 => by
    have h3 : 1 * b ^ lv ≤ X / b ^ lv * b ^ lv := Nat.mul_le_mul_right _ h2
    have h4 : X / b ^ lv * b ^ lv ≤ X := Nat.div_mul_le_self _ _
    omega
  have low : ∀ X : Nat, ¬ 0 < X / b ^ lv → X % b ^ lv = X := fun X h2 => by
    have h3 : X / b ^ lv = 0 := Nat.eq_zero_of_not_pos h2
    exact Nat.mod_eq_of_lt ((Nat.div_eq_zero_iff_lt hB).mp h3)
  split
  · rename_i h1
    have eR := top R hR h1
    split
    · rename_i h2
      have eC := top C hC h2
      rw [h.fw.eq, ← eR]
      show Sg _ R R = Sg _ R C
      rw [eC, ← eR]
      rfl
    · rename_i h2
      rw [h.fl.eq, low C h2, ← eR]
      rfl
  · rename_i h1
    split
    · rename_i h2
      have eC := top C hC h2
      rw [h.fu.eq, low R h1, ← eC]
      rfl
    · rename_i h2
      rw [h.fb.eq, low R h1, low C h2]
      rfl
/-- a rectangle's sum, entry by entry -/
theorem area_rect (hs : SysOk s n a) (hm : s.mats.length = b) (hb : 0 < b) {r0 c0 r1 c1 lv : Nat} (h1 : r0 ≤ r1) (h2 : c0 ≤ c1) (h3 : r1 < b ^ lv) (h4 : c1 < b ^ lv) :
    areaL s b lv r0 c0 r1 c1 = Sg (fun r c => entL s b lv (r0 + r) (c0 + c)) (r1 + 1 - r0) (c1 + 1 - c0) := by
  unfold areaL
  rw [corn_sum hs hm hb (by omega) (by omega), corn_sum hs hm hb (by omega) (by omega), corn_sum hs hm hb (by omega) (by omega), corn_sum hs hm hb (by omega) (by omega)]
  obtain ⟨x, e1⟩ : ∃ x, r1 + 1 = r0 + x := ⟨r1 + 1 - r0, by omega⟩
  obtain ⟨y, e2⟩ : ∃ y, c1 + 1 = c0 + y := ⟨c1 + 1 - c0, by omega⟩
  rw [e1, e2, Nat.add_sub_cancel_left, Nat.add_sub_cancel_left]
  have a1 := Sg_rows (fun r c => entL s b lv r c) r0 x (c0 + y)
  have a2 := Sg_rows (fun r c => entL s b lv r c) r0 x c0
  have a3 := Sg_cols (fun r c => entL s b lv (r0 + r) c) x c0 y
  omega
end
end BB

namespace BB
open PySem PySem.Spec PyProof.Rows L2
theorem cut_mid {α : Type} (xs : List α) {i j : Nat} (h1 : i ≤ j) (h2 : j ≤ xs.length) : cut xs (some (i : Int)) (some (j : Int)) = (xs.drop i).take (j - i) := by
  unfold cut
  rw [HT.sIx_nat, HT.sIx_nat, Nat.min_eq_left (show i ≤ xs.length by omega)]
  try rw [Nat.min_eq_left h2]
theorem cut_range {α : Type} (f : Nat → α) {n i k : Nat} (h : i + k ≤ n) : (((List.range n).map f).drop i).take k = (List.range k).map fun j => f (i + j) := by
  apply List.ext_getElem?
  intro m
  by_cases hm : m < k
  · rw [List.getElem?_take_of_lt hm, List.getElem?_drop, List.getElem?_map, List.getElem?_range (by omega), List.getElem?_map, List.getElem?_range hm]
    rfl
  · rw [List.getElem?_eq_none (by rw [List.length_take]; omega), List.getElem?_eq_none (by rw [List.length_map, List.length_range]; omega)]
theorem row_sum {b ls sh t r c0 k} (h : c0 + k ≤ b ^ t) : ((((List.range (b ^ t)).map fun c => entL (sysOf b ls sh) b t r c).drop c0).take k).sum = S1 (fun c => entL (sysOf b ls sh) b t r (c0 + c)) k := by
  rw [cut_range _ h]
  rfl
theorem rows_cut {b ls sh t r0 k} (h : r0 + k ≤ b ^ t) : ((rowsL (sysOf b ls sh) b t).drop r0).take k = (List.range k).map fun r => (List.range (b ^ t)).map fun c => entL (sysOf b ls sh) b t (r0 + r) c := by
  unfold rowsL
  rw [cut_range _ h]
theorem S1_bd {f : Nat → Int} {m : Nat} : ∀ {n : Nat}, (∀ i, i < n → (f i).natAbs ≤ m) → (S1 f n).natAbs ≤ n * m
  | 0, _ => by rw [S1_0]; simp
  | n + 1, h => by
    have h1 := S1_bd (f := f) (n := n) (m := m) fun i hi => h i (by omega)
    have h2 := h n (by omega)
    rw [S1_s, Nat.succ_mul]
    omega
theorem ent_small {b : Nat} {ls : List Line} {sh : List Int} (hk : KindOk b ls) (hl : sh.length = ls.length) (hs : ∀ x, x ∈ sh → x.natAbs ≤ 99) {t r c : Nat} (ht : t ≤ 6) : (entL (sysOf b ls sh) b t r c).natAbs ≤ 2 ^ 140 := by
  have tb : TabOk b ls sh 7 := hk.tab hl (fun x hx => by have := hs x hx; omega) (Nat.le_refl 7)
  have hc := (tb.sys.col (r := r) (c := c) tb.st (sysOf_mats b ls sh) (by have := hk.bi.two; omega) t).2
  have h1 := bd_dot tb.fc hc (by have := hk.six; show sh.length ≤ 1000; omega)
  exact Nat.le_trans h1 (Nat.pow_le_pow_right (by decide) (by have := Nat.mul_le_mul_right 18 ht; omega))
theorem area_small {b : Nat} {ls : List Line} {sh : List Int} (hk : KindOk b ls) (hl : sh.length = ls.length) (hs : ∀ x, x ∈ sh → x.natAbs ≤ 99) {t r0 c0 k k' : Nat} (ht : t ≤ 6) (h1 : k ≤ 729) (h2 : k' ≤ 729) :
    (Sg (fun r c => entL (sysOf b ls sh) b t (r0 + r) (c0 + c)) k k').natAbs < 2 ^ 1900 := by
  have h3 : (Sg (fun r c => entL (sysOf b ls sh) b t (r0 + r) (c0 + c)) k k').natAbs ≤ k * (k' * 2 ^ 140) := S1_bd fun r _ => S1_bd fun c _ => ent_small hk hl hs ht
  have h4 : k * (k' * 2 ^ 140) ≤ 729 * (729 * 2 ^ 140) := Nat.mul_le_mul h1 (Nat.mul_le_mul_right _ h2)
  have h5 : (729 : Nat) * (729 * 2 ^ 140) < 2 ^ 160 := by decide +kernel
  exact Nat.lt_of_lt_of_le (Nat.lt_of_le_of_lt (Nat.le_trans h3 h4) h5) (Nat.pow_le_pow_right (by decide) (by decide))
end BB
namespace BB
open PySem PySem.Spec PyProof.Rows L2
theorem rowsD_len (s : Sys) (b t : Nat) : (rowsD s b t).length = b ^ t := by
  unfold rowsD rowsL
  rw [List.length_map, List.length_map, List.length_range]
end BB

namespace BB
open PySem PySem.Spec PyProof.Rows L2
/-! ### lists of fresh lists: a comprehension that keeps its items' cells -/
abbrev GL := List (Addr × List D)
/-- a fresh list, perhaps with lists of its own -/
def RV.asTr : RV → Option (List D × GL)
  | .o (.ow xs) => some (xs, [])
  | .t (.tr (.ow xs) g) => some (xs, g)
  | _ => none
section
variable {X : Cx} {K : PySem.W.Frag} {F F' G G' H H' : Hp} {fx : List (Nat × Addr)} {W : WX} {ρ ρ' ρ1 ρ2 : DE} {σ σ' : L2.St} {pos pos' : Pos} {e : Expr} {m : M} {mt : MT} {v : V} {vs : List Nat}
theorem RvOk.asTr {r : RV} {xs : List D} {g : GL} (k : RvOk K F G H ρ σ r v) (h : r.asTr = some (xs, g)) : ∃ a, v = .ref a ∧ GsOk K F G H ((a, xs) :: g) ∧ ∀ p, p ∈ (a, xs) :: g → ∀ i, ¬ Owns ρ σ i p.1 := by
  unfold RV.asTr at h
  split at h
  · cases h
    obtain ⟨_, a, o, rfl, h1, h2, h3, h4, h5⟩ := k
    cases o <;> first | exact h4.elim | skip
    refine ⟨a, rfl, ⟨by simp, fun p hp => ?_⟩, fun p hp => ?_⟩
    · rcases List.mem_cons.mp hp with rfl | hp
      · exact ⟨_, h1, h2, h3, h4⟩
      · cases hp
    · rcases List.mem_cons.mp hp with rfl | hp
      · exact h5
      · cases hp
  · cases h
    obtain ⟨⟨⟨a, o, q, h1, h2, h3, h4⟩, h5, h6⟩, h7⟩ := k
    cases q
    cases o <;> first | exact h4.elim | skip
    have ha : (SV.tr (.ow xs) g).at (some (some (.ref a))) a := .inl rfl
    refine ⟨a, rfl, ⟨List.nodup_cons.mpr ⟨h6 a rfl, h5.1⟩, fun p hp => ?_⟩, fun p hp => ?_⟩
    · rcases List.mem_cons.mp hp with rfl | hp
      · exact ⟨_, h1, h2, h3, h4⟩
      · exact h5.2 p hp
    · rcases List.mem_cons.mp hp with rfl | hp
      · exact h7 _ ha
      · exact h7 _ (.inr (List.mem_map_of_mem hp))
  · cases h
/-- cells that nobody owns join the foreign -/
theorem Rep.lendG {g : GL} (R : Rep K F G H fx ρ σ) (hg : GsOk K F G H g) (ho : ∀ p, p ∈ g → ∀ i, ¬ Owns ρ σ i p.1) : ∃ G', Same G G' ∧ Rep K F G' H fx ρ σ ∧ ∀ p, p ∈ g → ∃ vs, G' p.1 = some (.lst vs) ∧ DatL K F vs p.2 := by
  classical
  let G' : Hp := fun b => if b ∈ g.map (·.1) then H b else G b
  have g1 : ∀ b, b ∈ g.map (·.1) → G' b = H b := fun b h => if_pos h
  have g2 : ∀ b, b ∉ g.map (·.1) → G' b = G b := fun b h => if_neg h
  have cell : ∀ b, b ∈ g.map (·.1) → ∃ p, p ∈ g ∧ p.1 = b := fun b h => by
    obtain ⟨p, hp, e⟩ := List.mem_map.mp h
    exact ⟨p, hp, e⟩
  have sm : Same G G' := fun b o e => by
    rw [g2 b fun h => by
      obtain ⟨p, hp, rfl⟩ := cell b h
      obtain ⟨_, _, _, z, _⟩ := hg.2 p hp
      rw [e] at z; cases z]
    exact e
  refine ⟨G', sm, ⟨R.fh, fun b o e => ?_, fun b o e => ?_, R.len, fun j x q => (R.sl j x q).move (Same.refl F) fun a ha => ?_, R.nd, R.fix⟩, fun p hp => ?_⟩
  · by_cases h : b ∈ g.map (·.1)
    · rw [g1 b h] at e; exact e
    · rw [g2 b h] at e; exact R.gh _ _ e
  · rw [g2 b fun h => by
      obtain ⟨p, hp, rfl⟩ := cell b h
      obtain ⟨_, _, z, _⟩ := hg.2 p hp
      rw [e] at z; cases z]
    exact R.fg _ _ e
  · obtain ⟨o, k1, k2, k3, _⟩ := (R.sl j x q).cell ha
    refine ⟨k2, ?_, rfl⟩
    rw [g2 a fun h => by
      obtain ⟨p, hp, rfl⟩ := cell a h
      exact ho p hp j ⟨x, q, ha⟩]
    exact k3
  · obtain ⟨vs, h1, _, _, h2⟩ := hg.2 p hp
    exact ⟨vs, by rw [g1 _ (List.mem_map_of_mem hp)]; exact h1, h2⟩
abbrev MKT := List D → GL → DE → (List D → GL → DE → Prop) → Prop
def lvlT (g : MG) (mt : MT) (vs : List Nat) (rest : MKT) : List D → List D → GL → DE → (List D → GL → DE → Prop) → Prop
  | [], acc, gg, ρ, k => k acc gg ρ
  | x :: xs, acc, gg, ρ, k => g x (wipeD ρ vs) fun ρ1 => mt ρ1 (fun b ρ2 => if b = true then rest acc gg ρ2 (fun acc' gg' ρ3 => lvlT g mt vs rest xs acc' gg' ρ3 k) else lvlT g mt vs rest xs acc gg ρ2 k) fun _ _ _ => False
/-- an item: its cells get addresses that are unlike all earlier ones -/
def kEltT (me : M) : MKT := fun acc gg ρ k => me ρ (fun r ρ1 => match r.asTr with
  | some (xs, g') => acc.length < sizeLine ∧ ∀ a, (gg.map (·.1) ++ a :: g'.map (·.1)).Nodup → k (acc ++ [.adr a]) (gg ++ (a, xs) :: g') ρ1
  | none => False) fun _ _ _ => False
def mLcT (mi : ML) (g : MG) (mt : MT) (vs : List Nat) (rest : MKT) : M := fun ρ Q X => mi ρ (fun xs ρ1 => lvlT g mt vs rest xs [] [] (wipeD ρ1 vs) (fun ys gg ρ2 => Q (.t (.tr (.ow ys) gg)) (unwipe ρ1 (wipeD ρ2 vs) vs))) X
/-- the items' cells stand among the foreign -/
def GIn (K : PySem.W.Frag) (F G0 G : Hp) (L : Addr) (g : GL) : Prop := (g.map (·.1)).Nodup ∧ ∀ p, p ∈ g → p.1 ≠ L ∧ G0 p.1 = none ∧ ∃ vs, G p.1 = some (.lst vs) ∧ DatL K F vs p.2
theorem GIn.mono {G0 : Hp} {L : Addr} {g : GL} (s : Same F F') (h : GIn K F G0 G L g) : GIn K F' G0 G L g := ⟨h.1, fun p hp => by
  obtain ⟨h1, h2, vs, h3, h4⟩ := h.2 p hp
  exact ⟨h1, h2, vs, h3, h4.mono s⟩⟩
def KOkT (K : PySem.W.Frag) (fx : List (Nat × Addr)) (L : Addr) (vs : List Nat) (t : TK) (md : List D → List D → GL → DE → (List D → GL → DE → Prop) → Prop) : Prop :=
  ∀ {σ : L2.St} {J : It} {H : Hp} {Nx : Hp → Prop} {F G0 G Gd : Hp} {ρ : DE} {xs acc : List D} {gg : GL} {av av0 : List V} {kf : List D → GL → DE → Prop}, Same G0 G → G0 L = none → Rep K F (upd G L (.lst av)) H fx ρ σ → DatL K F av acc → GIn K F G0 G L gg →
    FzO Gd → Same Gd (upd G0 L (.lst av0)) → ItD K F Gd J xs → md xs acc gg ρ kf →
    (∀ acc' gg' ρ', kf acc' gg' ρ' → ∀ F' G' H' av', Same F F' → Same G0 G' → Rep K F' (upd G' L (.lst av')) H' fx (wipeD ρ' vs) (wipe σ vs) → DatL K F' av' acc' → GIn K F' G0 G' L gg' → Nx H') → t σ J H Nx
def ROkT (K : PySem.W.Frag) (fx : List (Nat × Addr)) (L : Addr) (vs : List Nat) (t : L2.St → Hp → (Hp → Prop) → Prop) (mk : MKT) : Prop :=
  ∀ {σ : L2.St} {H : Hp} {N : Hp → Prop} {F G0 G : Hp} {ρ : DE} {acc : List D} {gg : GL} {av : List V} {kf : List D → GL → DE → Prop}, Same G0 G → G0 L = none → Rep K F (upd G L (.lst av)) H fx ρ σ → DatL K F av acc → GIn K F G0 G L gg → mk acc gg ρ kf →
    (∀ acc' gg' ρ', kf acc' gg' ρ' → ∀ F' G' H' av' σ', Same F F' → Same G0 G' → Off vs σ σ' → Rep K F' (upd G' L (.lst av')) H' fx ρ' σ' → DatL K F' av' acc' → GIn K F' G0 G' L gg' → N H') → t σ H N
theorem rokT_last {L : Addr} : ROkT K fx L vs (rLast (tS K fx W0 m) L) (kEltT m) := by
  intro σ H N F G0 G ρ acc gg av kf sg g0 R da gi h fin
  refine ⟨F, _, ρ, _, _, R, h, fun r ρ1 h1 F1 H1 v1 s1 R1 k1 => ?_, xok0 fun _ _ _ z => z⟩
  cases e : r.asTr with
  | none => rw [e] at h1; exact h1.elim
  | some q =>
    obtain ⟨xs, g'⟩ := q
    rw [e] at h1
    obtain ⟨hl, h1⟩ := h1
    obtain ⟨a, rfl, kg, ko⟩ := k1.asTr e
    obtain ⟨G2, s2, R2, k2⟩ := R1.lendG kg ko
    have hL : G2 L = some (.lst av) := s2 _ _ upd_same
    have free : ∀ p, p ∈ (a, xs) :: g' → p.1 ≠ L ∧ G p.1 = none := fun p hp => by
      obtain ⟨_, _, _, z, _⟩ := kg.2 p hp
      have ne : p.1 ≠ L := fun q => by rw [q, upd_same] at z; cases z
      exact ⟨ne, by rw [upd_ne ne] at z; exact z⟩
    have e2 := delL_upd hL
    rw [← e2] at R2
    have sg2 : Same G0 (delL G2 L) := fun b o q => by
      have ne : b ≠ L := fun z => by rw [z, g0] at q; cases q
      show (if b = L then none else G2 b) = some o
      rw [if_neg ne]
      exact s2 _ _ (by rw [upd_ne ne]; exact sg _ _ q)
    have up2 : ∀ b, b ≠ L → delL G2 L b = G2 b := fun b ne => if_neg ne
    have nin : ∀ p, p ∈ (a, xs) :: g' → p.1 ∉ gg.map (·.1) := fun p hp hm => by
      obtain ⟨p', hp', q⟩ := List.mem_map.mp hm
      obtain ⟨_, _, _, z, _⟩ := gi.2 p' hp'
      have q : p'.1 = p.1 := q
      rw [q, (free p hp).2] at z; cases z
    have nd : (gg.map (·.1) ++ a :: g'.map (·.1)).Nodup := by
      refine List.nodup_append.mpr ⟨gi.1, kg.1, fun b hb c hc q => ?_⟩
      subst q
      obtain ⟨p, hp, rfl⟩ := List.mem_map.mp (show b ∈ ((a, xs) :: g').map (·.1) from hc)
      exact nin p hp hb
    refine ⟨av, R1.gh _ _ upd_same, by rw [da.length]; exact hl, fin _ _ _ (h1 a nd) F1 _ _ _ σ s1 sg2 (Off.refl _ _) R2.gset ((da.mono s1).append (.cons (.adr a) .nil)) ⟨by rw [List.map_append]; exact nd, fun p hp => ?_⟩⟩
    rcases List.mem_append.mp hp with hp | hp
    · obtain ⟨y1, y2, ws, y3, y4⟩ := gi.2 p hp
      exact ⟨y1, y2, ws, by rw [up2 _ y1]; exact s2 _ _ (by rw [upd_ne y1]; exact y3), y4.mono s1⟩
    · obtain ⟨y1, y2⟩ := free p hp
      obtain ⟨ws, y3, y4⟩ := k2 p hp
      refine ⟨y1, ?_, ws, by rw [up2 _ y1]; exact y3, y4⟩
      cases q : G0 p.1 with
      | none => rfl
      | some o => rw [sg _ _ q] at y2; cases y2
theorem kokT_lvl {L : Addr} {g : MG} {rest : L2.St → Hp → (Hp → Prop) → Prop} {mk : MKT} {ts : List Nat} (hf : vs.all (fxOk fx) = true) (hts : ∀ i, i ∈ ts → i ∈ vs) (hr : ROkT K fx L vs rest mk) :
    KOkT K fx L vs (kLvl (tSG K fx ts g) (tST K fx W0 mt) vs rest) (lvlT g mt vs mk) := by
  intro σ J H Nx F G0 G Gd ρ xs acc gg av av0 kf sg g0 R da gi fz sd it h fin
  have sdg : ∀ {G' : Hp} {av' : List V}, Same G0 G' → Same Gd (upd G' L (.lst av')) := fun {G' av'} s b o q => by
    have z := sd _ _ q
    by_cases hb : b = L
    · subst hb
      rw [upd_same] at z
      cases z
      obtain ⟨_, _, w⟩ := fz _ _ q
      cases w
    · rw [upd_ne hb] at z ⊢
      exact s _ _ z
  let S : Nat → Hp → Prop := fun i H => ∃ F2 G2 ρ2 acc2 gg2 av2, Same F F2 ∧ Same G0 G2 ∧ Rep K F2 (upd G2 L (.lst av2)) H fx (wipeD ρ2 vs) (wipe σ vs) ∧ DatL K F2 av2 acc2 ∧ GIn K F2 G0 G2 L gg2 ∧ lvlT g mt vs mk (xs.drop i) acc2 gg2 ρ2 kf
  refine ⟨fun i m H => m = xs.length - i ∧ i ≤ xs.length ∧ S i H, ⟨_, rfl, Nat.zero_le _, F, G, ρ, acc, gg, av, Same.refl F, sg, R.wipe hf, da, gi, h⟩, ?_⟩
  rintro i m H' ⟨rfl, hi, F2, G2, ρ2, acc2, gg2, av2, s2, sg2, R2, da2, gi2, h2⟩
  have it2 := it.mono s2
  by_cases hlt : i < xs.length
  · refine .inr ⟨it2.go i H' R2.fh ((sdg sg2).trans R2.gh) hlt, fun H3 => S (i + 1) H3, fun H3 q => ⟨xs.length - (i + 1), by omega, rfl, hlt, q⟩, fun y H3 hy => ?_⟩
    obtain ⟨d, hd, z⟩ := it2.yld i H' y H3 R2.fh ((sdg sg2).trans R2.gh) hlt hy
    have hdr : xs.drop i = d :: xs.drop (i + 1) := by
      rw [List.drop_eq_getElem_cons hlt]
      congr 1
      rw [List.getElem?_eq_getElem hlt] at hd
      exact Option.some.inj hd
    rw [hdr] at h2
    have go : ∀ F4, Same F2 F4 → Rep K F4 (upd G2 L (.lst av2)) H3 fx (wipeD ρ2 vs) (wipe σ vs) → Dat K F4 y d → _ := fun F4 s4 R4 d4 =>
      (show tSG K fx ts g y (wipe σ vs) H3 fun σ2 H2 => wipe σ2 vs = wipe σ vs ∧ tST K fx W0 mt σ2 H2 fun b H3 => if b = true then rest σ2 H3 (S (i + 1)) else S (i + 1) H3 from
        ⟨F4, _, _, d, _, R4, d4, h2, fun ρ5 h5 F5 H5 σ5 s5 o5 R5 => by
          have w5 : wipe σ5 vs = wipe σ vs := (wipe_off (o5.mono hts)).trans wipe_wipe
          refine ⟨w5, F5, _, ρ5, _, _, R5, h5, fun b ρ6 h6 F6 H6 s6 R6 => ?_, xok0 fun _ _ _ z => z⟩
          have sm := ((s2.trans s4).trans s5).trans s6
          cases b with
          | false => exact ⟨F6, G2, ρ6, acc2, gg2, av2, sm, sg2, by rw [← w5]; exact R6.wipe hf, ((da2.mono s4).mono s5).mono s6, ((gi2.mono s4).mono s5).mono s6, h6⟩
          | true =>
            refine hr sg2 g0 R6 (((da2.mono s4).mono s5).mono s6) (((gi2.mono s4).mono s5).mono s6) h6 fun acc' gg' ρ' z F7 G7 H7 av' σ' s7 sg7 o7 R7 d7 g7 => ⟨F7, G7, ρ', acc', gg', av', sm.trans s7, sg7, ?_, d7, g7, z⟩
            rw [← w5, ← wipe_off o7]
            exact R7.wipe hf⟩)
    rcases z with ⟨rfl, dd⟩ | ⟨p, o, rfl, hp, rfl, dd⟩
    · exact go F2 (Same.refl F2) R2 dd
    · obtain ⟨sm, R4⟩ := R2.newF (o := o) hp
      exact go _ sm R4 (dd _ sm upd_same)
  · have e : i = xs.length := by omega
    subst e
    rw [List.drop_length] at h2
    exact .inl ⟨it2.stop H' R2.fh ((sdg sg2).trans R2.gh), fin _ _ _ h2 F2 G2 H' av2 s2 sg2 R2 da2 gi2⟩
theorem ts_lcT {mi : ML} {md : List D → List D → GL → DE → (List D → GL → DE → Prop) → Prop} {t : Addr → TK} (hf : vs.all (fxOk fx) = true) (hk : ∀ L, KOkT K fx L vs (t L) md) {Q : VK}
    (h : tS K fx W (fun ρ Q X => mi ρ (fun xs ρ1 => md xs [] [] (wipeD ρ1 vs) (fun ys gg ρ2 => Q (.t (.tr (.ow ys) gg)) (unwipe ρ1 (wipeD ρ2 vs) vs))) X) σ H Q) : tLcN (tSI K fx W mi) vs t σ H Q := by
  obtain ⟨F, G, ρ, Q0, X0, R, h, q, x⟩ := h
  refine ⟨F, G, ρ, _, X0, R, h, fun xs ρ1 h1 F1 G1 Gd H1 J s1 sg1 fz sd R1 it L hL => ?_, x⟩
  obtain ⟨G', sg, Rw, ho⟩ := R1.stash hf
  obtain ⟨Rn, hF, hG, hO⟩ := Rw.new (o := .lst []) hL
  have k0 : RvOk K F1 G' (upd H1 L (.lst [])) (wipeD ρ1 vs) (wipe σ vs) (.o (.ow [])) (.ref L) := ⟨rfl, L, _, rfl, upd_same, hF, hG, .nil, hO⟩
  obtain ⟨sg2, Rl⟩ := Rn.lend k0
  have eg : gx (.o (.ow [])) (.ref L) G' (upd H1 L (.lst [])) = upd G' L (.lst []) := by simp only [gx, upd_same]
  rw [eg] at sg2 Rl
  refine hk L (Same.refl G') hG Rl .nil ⟨by simp, fun p hp => by cases hp⟩ fz ((sd.trans sg).trans sg2) it h1 fun acc' gg' ρ' z F2 G2 H2 av' s2 sgg R2 d2 gi => ?_
  rw [wipe_wipe] at R2
  have sgL : Same G' (upd G2 L (.lst av')) := fun b o e => by rw [upd_ne (ne_of_none e hG)]; exact sgg _ _ e
  have R3 := R1.unstash hf sg ho Rw.gh s2 (R2.less sgL)
  have hl : ρ1.length = (wipeD ρ' vs).length := by rw [R1.len, R2.len, wipe_length]
  have fre : ∀ b o, (upd G2 L (.lst av')) b = some o → OCl o → F2 b = none := fun b o e c => by
    cases q : F2 b with
    | none => rfl
    | some u =>
      rcases R2.fg _ _ q with z2 | ⟨_, _, _, z2⟩
      · rw [e] at z2; cases z2
      · rw [e] at z2; cases z2; exact c.elim
  have out : ∀ b o, (upd G2 L (.lst av')) b = some o → G' b = none → ∀ j, ¬ Owns (unwipe ρ1 (wipeD ρ' vs) vs) σ j b := fun b o e n j hj => by
    rcases unwipe_owns hl hj with ⟨y1, y2⟩ | ⟨y1, y2⟩
    · obtain ⟨o, z2⟩ := ho j b y1 y2
      rw [n] at z2; cases z2
    · obtain ⟨_, _, _, z2, _⟩ := R2.ownH y2
      rw [e] at z2; cases z2
  refine q _ _ z F2 H2 _ (s1.trans s2) (R3.less sg1) (RvOk.less sg1 (?_ : RvOk K F2 G1 H2 _ σ (.t (.tr (.ow acc') gg')) (.ref L)))
  refine ⟨⟨⟨L, _, rfl, R2.gh _ _ upd_same, fre L _ upd_same trivial, sg.free hG, d2⟩, ⟨gi.1, fun p hp => ?_⟩, fun a ha hm => ?_⟩, fun a ha j => ?_⟩
  · obtain ⟨y1, y2, ws, y3, y4⟩ := gi.2 p hp
    have y5 : (upd G2 L (.lst av')) p.1 = some (.lst ws) := by rw [upd_ne y1]; exact y3
    exact ⟨ws, R2.gh _ _ y5, fre _ _ y5 trivial, sg.free y2, y4⟩
  · have ha : some (some (V.ref L)) = some (some (.ref a)) := ha
    cases ha
    obtain ⟨p, hp, q⟩ := List.mem_map.mp hm
    exact (gi.2 p hp).1 q
  · rcases ha with ha | hm
    · have ha : some (some (V.ref L)) = some (some (.ref a)) := ha
      cases ha
      exact out L _ upd_same hG j
    · obtain ⟨p, hp, rfl⟩ := List.mem_map.mp hm
      obtain ⟨y1, y2, ws, y3, y4⟩ := gi.2 p hp
      exact out p.1 _ (by rw [upd_ne y1]; exact y3) y2 j
section
variable {elt tg src : Expr} {ifs : List Expr} {scope : Scope} {mi : ML} {g : MG} {me : M} {ts : List Nat}
theorem es_lcT (own : List (Str × Nat)) (hc : X.calm = true) (hN : X.N.Nodup) (ok : blkC X.N X.env.scope scope own = true) (hf : (own.map (·.2)).all (fxOk fx) = true) (hts : ∀ i, i ∈ ts → i ∈ own.map (·.2))
    (hi : EI X fx W tg src mi) (hg : InBlk X scope fun Y => EG Y fx ts tg g) (ht : InBlk X scope fun Y => ETs Y fx ifs mt) (he : InBlk X scope fun Y => ES Y fx W0 elt me)
    (hs : ∀ z, foldedSetIterable src X.env z = pure z := by intro _; rfl) : ES X fx W (.ListComp elt [⟨tg, src, ifs, 0⟩] scope pos) (mLcT mi g mt (own.map (·.2)) (kEltT me)) :=
  pe_imp (pe_lcN hc hN hi (blkOk_by ok) (lvl1 hc hg ht he) hs) fun _ _ _ h => ts_lcT hf (fun L => kokT_lvl hf hts rokT_last) h
theorem ss_setLcT (own : List (Str × Nat)) (j : Nat) {y : Str} {py spos : Pos} (hc : X.calm = true) (hN : X.N.Nodup) (ok : blkC X.N X.env.scope scope own = true) (hf : (own.map (·.2)).all (fxOk fx) = true) (hts : ∀ i, i ∈ ts → i ∈ own.map (·.2))
    (hi : EI X fx W tg src mi) (hg : InBlk X scope fun Y => EG Y fx ts tg g) (ht : InBlk X scope fun Y => ETs Y fx ifs mt) (he : InBlk X scope fun Y => ES Y fx W0 elt me)
    (hsw : swapsWith (.ListComp elt [⟨tg, src, ifs, 0⟩] scope pos) (some (.Name y py)) spos.line X.env = pure true) (hy : X.N[j]? = some y := by rfl) (hyl : X.env.scope.names.lookup y = some .local := by rfl) (hfj : fxOk fx j = true := by rfl)
    (hs : ∀ z, foldedSetIterable src X.env z = pure z := by intro _; rfl) : SS X fx W (.Assign [.Name y py] (.ListComp elt [⟨tg, src, ifs, 0⟩] scope pos) spos) (sSet j (mLcT mi g mt (own.map (·.2)) (kEltT me))) :=
  ps_imp (ps_setLcN hc hN hy hyl hsw hi (blkOk_by ok) (lvl1 hc hg ht he) hs) fun D σ H h => ts_lcT hf (fun L => kokT_lvl hf hts rokT_last) (ts_set hfj h)
end
end
end BB

namespace BB
open PySem PySem.Spec PyProof.Rows L2
/-! ### places: an owned list, or a list within one, that is written -/
def setG (g : GL) (a : Addr) (ys : List D) : GL := g.map fun p => if p.1 = a then (a, ys) else p
/-- what stands at a place, and the slots after a store there -/
def wrAt (r : RV) (ρ : DE) : Option (List D × (List D → DE)) := match r with
  | .sl i => match ρ[i]? with
    | some (.ow xs) => some (xs, fun ys => ρ.set i (.ow ys))
    | some (.tr (.ow xs) g) => some (xs, fun ys => ρ.set i (.tr (.ow ys) g))
    | _ => none
  | .gr j a => match ρ[j]? with
    | some (.tr s g) => match g.lookup a with
      | some xs => some (xs, fun ys => ρ.set j (.tr s (setG g a ys)))
      | none => none
    | _ => none
  | _ => none
section
variable {X : Cx} {K : PySem.W.Frag} {F F' G G' H H' : Hp} {fx : List (Nat × Addr)} {W : WX} {ρ ρ' ρ1 ρ2 : DE} {σ σ' : L2.St} {pos pos' : Pos} {e o : Expr} {es : List Expr} {m mo : M} {ml : ML} {v : V} {d : D} {a : Addr}
theorem setG_keys {g : GL} {ys : List D} : (setG g a ys).map (·.1) = g.map (·.1) := by
  unfold setG
  rw [List.map_map]
  refine List.map_congr_left fun p _ => ?_
  show (if p.1 = a then (a, ys) else p).1 = p.1
  split
  · rename_i h; exact h.symm
  · rfl
/-- a slot's part is rewritten -/
theorem Rep.wrS {i : Nat} {s s' : SV} {p : Addr} {u : HO} (R : Rep K F G H fx ρ σ) (e : ρ[i]? = some s) (hp : s.at (σ[i]?) p) (ha : ∀ b, s'.at (σ[i]?) b → s.at (σ[i]?) b) (hs : SlOk K F G (upd H p u) s' (σ[i]?)) : Rep K F G (upd H p u) fx (ρ.set i s') σ := by
  obtain ⟨o, h2, h3, h4, _⟩ := (R.sl i s e).cell hp
  have back : ∀ j b, Owns (ρ.set i s') σ j b → Owns ρ σ j b := fun j b ⟨x, q, z⟩ => by
    rcases set_get? q with ⟨rfl, rfl⟩ | ⟨hj, q⟩
    · exact ⟨s, e, ha b z⟩
    · exact ⟨x, q, z⟩
  refine ⟨fun b w q => ?_, fun b w q => ?_, R.fg, by rw [List.length_set]; exact R.len, fun j x q => ?_, fun j k b q1 q2 => R.nd j k b (back j b q1) (back k b q2), R.fix⟩
  · rw [upd_ne (ne_of_none q h3)]; exact R.fh _ _ q
  · rw [upd_ne (ne_of_none q h4)]; exact R.gh _ _ q
  · rcases set_get? q with ⟨rfl, rfl⟩ | ⟨hj, q⟩
    · exact hs
    · refine (R.sl j x q).move (Same.refl F) fun b hb => ?_
      obtain ⟨w, k2, k3, k4, _⟩ := (R.sl j x q).cell hb
      have ne : b ≠ p := fun z => hj (R.nd j i p ⟨x, q, by rw [← z]; exact hb⟩ ⟨s, e, hp⟩)
      exact ⟨k3, k4, by rw [upd_ne ne]⟩
theorem wrAt_ok {r : RV} {xs : List D} {f : List D → DE} (R : Rep K F G H fx ρ σ) (k : RvOk K F G H ρ σ r v) (h : wrAt r ρ = some (xs, f)) :
    ∃ a vs, v = .ref a ∧ H a = some (.lst vs) ∧ DatL K F vs xs ∧ ∀ ys vs', DatL K F vs' ys → Rep K F G (upd H a (.lst vs')) fx (f ys) σ := by
  unfold wrAt at h
  split at h
  · rename_i i
    have hv : σ[i]? = some (some v) := k
    split at h
    · rename_i xs' e
      cases h
      obtain ⟨a, o, h1, h2, h3, h4, h5⟩ := R.sl i _ e
      rw [hv] at h1; cases h1
      cases o <;> first | exact h5.elim | skip
      exact ⟨a, _, rfl, h2, h5, fun ys vs' d => R.wr e rfl hv rfl d⟩
    · rename_i xs' g e
      cases h
      have z := R.sl i _ e
      obtain ⟨⟨a, o, h1, h2, h3, h4, h5⟩, h6, h7⟩ := z
      rw [hv] at h1; cases h1
      cases o <;> first | exact h5.elim | skip
      refine ⟨a, _, rfl, h2, h5, fun ys vs' d => R.wrS e (.inl hv) (fun b hb => hb) ⟨⟨a, _, hv, upd_same, h3, h4, d⟩, ⟨h6.1, fun p hp => ?_⟩, h7⟩⟩
      obtain ⟨ws, y1, y2, y3, y4⟩ := h6.2 p hp
      have ne : p.1 ≠ a := fun q => h7 a hv (by rw [← q]; exact List.mem_map_of_mem hp)
      exact ⟨ws, by rw [upd_ne ne]; exact y1, y2, y3, y4⟩
    · cases h
  · rename_i j a
    have hv : v = .ref a := k
    split at h
    · rename_i s g e
      split at h
      · rename_i xs' e3
        cases h
        obtain ⟨h5, h6, h7⟩ := R.sl j _ e
        obtain ⟨ws, y1, y2, y3, y4⟩ := h6.2 _ (lookup_mem e3)
        have ha : a ∈ g.map (·.1) := List.mem_map_of_mem (lookup_mem e3)
        refine ⟨a, ws, hv, y1, y4, fun ys vs' d => R.wrS e (.inr ha) (fun b hb => ?_) ⟨h5.move (Same.refl F) fun b hb => ?_, ⟨by rw [setG_keys]; exact h6.1, fun p hp => ?_⟩, fun b hb => by rw [setG_keys]; exact h7 b hb⟩⟩
        · rcases hb with hb | hb
          · exact .inl hb
          · exact .inr (by rw [setG_keys] at hb; exact hb)
        · obtain ⟨w, k2, k3, k4, _⟩ := h5.cell hb
          have ne : b ≠ a := fun q => h7 b hb (by rw [q]; exact ha)
          exact ⟨k3, k4, by rw [upd_ne ne]⟩
        · unfold setG at hp
          obtain ⟨p', hp', q⟩ := List.mem_map.mp hp
          by_cases c : p'.1 = a
          · rw [if_pos c] at q
            subst q
            exact ⟨vs', upd_same, y2, y3, d⟩
          · rw [if_neg c] at q
            subst q
            obtain ⟨us, z1, z2, z3, z4⟩ := h6.2 p' hp'
            exact ⟨us, by rw [upd_ne c]; exact z1, z2, z3, z4⟩
      · cases h
    · cases h
  · cases h
/-- a value that is a bare address of a list within the slot j -/
def mRes (j : Nat) (m : M) : M := fun ρ Q X => m ρ (fun r ρ1 => match r with
  | .v (.adr a) => Q (.gr j a) ρ1
  | r => Q r ρ1) X
theorem es_res (j : Nat) (h : ES X fx W e m) : ES X fx W e (mRes j m) := pe_imp h fun σ H Q ⟨F, G, ρ, Q0, X0, R, h, q, x⟩ =>
  ⟨F, G, ρ, _, X0, R, h, fun r ρ1 h1 F1 H1 v1 s1 R1 k1 => by
    split at h1
    · rename_i a
      have k1 : Dat X.K F1 v1 (.adr a) := k1
      cases k1
      exact q _ _ h1 F1 H1 _ s1 R1 rfl
    · exact q _ _ h1 F1 H1 _ s1 R1 k1, x⟩
/-! ### o.append(x), .. where o is a place -/
def mOwnR (mo : M) (P : PO) (ml : ML) : M := fun ρ Q X => mo ρ (fun r ρ1 => (∃ z, wrAt r.keep ρ1 = some z) ∧ ml ρ1 (fun ds ρ2 => match wrAt r.keep ρ2 with
  | some (xs, f) => P xs ds fun d ys => Q (.v d) (f ys)
  | none => False) X) X
section
variable {id : String} {name : Str} {apos cpos : Pos} {r : V → List V → Hp → VK → Prop} {P : PO}
theorem ts_ownR {ta : TA} {Q : VK} (S : SndO K r P) (ha : ∀ σ H Q, tSL K fx W ml σ H Q → ta σ H Q) (h : tS K fx W (mOwnR mo P ml) σ H Q) : tBM K "list" r (tS K fx W mo) ta σ H Q := by
  obtain ⟨F, G, ρ, Q0, X0, R, h, q, x⟩ := h
  refine ⟨F, G, ρ, _, X0, R, h, fun r1 ρ1 h1 F1 H1 v1 s1 R1 k1 => ?_, x⟩
  obtain ⟨⟨⟨xs, f⟩, e0⟩, h1⟩ := h1
  obtain ⟨F2, s2, R2, k2⟩ := k1.keep R1
  obtain ⟨a, vs, rfl, hH, _⟩ := wrAt_ok R2 (k2 F2 H1 ρ1 (Same.refl F2)) e0
  refine ⟨Or.inl ⟨rfl, _, Or.inl (Or.inl hH)⟩, ha _ _ _ ⟨F2, G, ρ1, _, X0, R2, h1, fun ds ρ2 h2 F3 H3 us s3 R3 k3 => ?_, x.mono (s1.trans s2)⟩⟩
  cases e2 : wrAt r1.keep ρ2 with
  | none => rw [e2] at h2; exact h2.elim
  | some z =>
    obtain ⟨ys, f2⟩ := z
    rw [e2] at h2
    obtain ⟨a', ws, ea, hH', dw, put⟩ := wrAt_ok R3 (k2 F3 H3 ρ2 s3) e2
    cases ea
    exact S.ok hH' R3.fh dw k3 h2 fun d zs hk v vs' hd hvs => q _ _ hk F3 _ v ((s1.trans s2).trans s3) (put _ _ hvs) hd
theorem es_ownR (slot : Slot "list" name id) (hty : typeOf (.builtin id) = pure (.type "method_descriptor")) (hm : MtR X id r) (S : SndO X.K r P) (ho : ES X fx W o mo) (ha : EL X fx W (e :: es) ml)
    (hbase : attributeBase o name X.env (eval o X.env) = eval o X.env := by rfl)
    (hfew : ((backTo cpos (starEach (e :: es) X.env)).all (fun x => !x.1) && (backToKw cpos (keywordEach [] X.env)).all (fun x => x.1.isSome)
      && decide ((e :: es).length + ([] : List Keyword).length + (if ([] : List Keyword).isEmpty then 0 else 1) < 30)) = true := by rfl)
    (hline : (apos.endLine == cpos.line) = true := by rfl) (hs : starEach (e :: es) X.env = (false, eval e X.env) :: starEach es X.env := by rfl) (hplain : (backTo cpos (starEach es X.env)).any (·.1) = false := by rfl) :
    ES X fx W (.Call (.Attribute o name apos) (e :: es) [] cpos) (mOwnR mo P ml) :=
  pe_imp (pe_bm PySem.F.plainAttrs_list slot hty hm ho ha hbase hfew hline hs hplain) fun σ H Q h => ts_ownR S (fun _ _ _ z => z) h
theorem es_ownR0 (slot : Slot "list" name id) (hty : typeOf (.builtin id) = pure (.type "method_descriptor")) (hm : MtR X id r) (S : SndO X.K r P) (ho : ES X fx W o mo)
    (hbase : attributeBase o name X.env (eval o X.env) = eval o X.env := by rfl) (hline : (apos.endLine == cpos.line) = true := by rfl) :
    ES X fx W (.Call (.Attribute o name apos) [] [] cpos) (mOwnR mo P lNil) :=
  pe_imp (pe_bm0 PySem.F.plainAttrs_list slot hty hm ho hbase hline) fun σ H Q h => by
    have z := ts_ownR (ta := tNil) S (fun σ H Q' ⟨F, G, ρ, Q0, X0, R, h, q, x⟩ => q _ _ h F H [] (Same.refl F) R .nil) h
    exact z
end
/-! ### o[i] = x where o is a place -/
def sPutR (m mo mi : M) : MS := fun ρ E => m ρ (fun r ρ1 => onC (r.cap ρ1) fun d ρ2 => mo ρ2 (fun ro ρ3 => mi ρ3 (fun ri ρ4 => onD (ri.at ρ4) fun k => match k, wrAt ro.keep ρ4 with
  | .int i, some (xs, f) => (match ixN xs.length i with
    | some n => E.nx (f (xs.set n d))
    | none => False)
  | _, _ => False) E.ex) E.ex) E.ex
theorem ss_putR {p2 : Pos} {i : Expr} {mi : M} (he : ES X fx W e m) (ho : ES X fx W o mo) (hi : ES X fx W i mi)
    (ha : ∀ v, assign (.Subscript o i p2) X.env v = (do
      let ov ← holding [v] (eval o X.env)
      let iv ← holding [v, ov] (eval i X.env)
      standAt p2
      holding [v, ov, iv] (setItem ov iv v)
      release [v, ov, iv] []) := by intro _; rfl)
    (hs : swapsWithSole [.Subscript o i p2] e pos.line X.env = pure false := by rfl) (hw : swappedStores [.Subscript o i p2] e X.env = pure none := by rfl)
    (h1 : (assignEach [.Subscript o i p2] X.env).map (·.2) = [assign (.Subscript o i p2) X.env] := by rfl) :
    SS X fx W (.Assign [.Subscript o i p2] e pos) (sPutR m mo mi) :=
  ps_imp (ps_asg he (pg_sub ho hi set_list ha) hs hw h1) fun D σ H ⟨F, G, ρ, E0, R, h, k⟩ => by
    refine ⟨F, G, ρ, _, _, R, h, fun r ρ1 h1 F1 H1 v1 s1 R1 k1 => ?_, k.ex σ⟩
    obtain ⟨d, ρ2, e1, h1⟩ := onC_some h1
    obtain ⟨F2, s2, R2, k2⟩ := k1.cap R1 e1
    refine ⟨F2, G, ρ2, _, _, R2, h1, fun ro ρ3 h3 F3 H3 v3 s3 R3 k3 => ?_, (k.ex σ).mono (s1.trans s2)⟩
    obtain ⟨F4, s4, R4, k4⟩ := k3.keep R3
    refine ⟨F4, G, ρ3, _, _, R4, h3, fun ri ρ4 h5 F5 H5 v5 s5 R5 k5 => ?_, (k.ex σ).mono ((s1.trans s2).trans (s3.trans s4))⟩
    obtain ⟨kk, e5, h5⟩ := onD_some h5
    split at h5
    · rename_i j xs f ew
      split at h5
      · rename_i n hn
        obtain ⟨a, vs, rfl, hH, dv, put⟩ := wrAt_ok R5 (k4 F5 H5 ρ4 s5) ew
        rw [(k5.top R5 e5).int_inv]
        exact ⟨a, vs, j, n, rfl, rfl, hH, by rw [dv.length]; exact hn, k.nx _ h5 F5 _ σ (((s1.trans s2).trans (s3.trans s4)).trans s5) (put _ _ (DatL.set n dv (k2.mono ((s3.trans s4).trans s5))))⟩
      · exact h5.elim
    · exact h5.elim
/-! ### the lists within are frozen from here on -/
def fillD (g : GL) : Nat → D → D
  | 0, d => d
  | n + 1, .adr a => match g.lookup a with
    | some xs => .lst (xs.map (fillD g n))
    | none => .adr a
  | n + 1, .lst xs => .lst (xs.map (fillD g n))
  | _ + 1, d => d
theorem fill_dat {g : GL} (hg : ∀ p, p ∈ g → ∃ vs, F p.1 = some (.lst vs) ∧ DatL K F vs p.2) : ∀ (n : Nat) {v : V} {d : D}, Dat K F v d → Dat K F v (fillD g n d) := by
  intro n
  induction n with
  | zero => exact fun h => h
  | succ n ih =>
    have ls : ∀ {vs : List V} {xs : List D}, DatL K F vs xs → DatL K F vs (xs.map (fillD g n)) := fun {vs xs} h => by
      induction xs generalizing vs with
      | nil => cases h; exact .nil
      | cons x xs ih2 =>
        cases h with
        | cons h t => exact .cons (ih h) (ih2 t)
    intro v d h
    cases d with
    | adr a =>
      cases h
      show Dat K F (.ref a) (match g.lookup a with
        | some xs => D.lst (xs.map (fillD g n))
        | none => .adr a)
      cases e : g.lookup a with
      | none => exact .adr a
      | some xs =>
        obtain ⟨vs, h1, h2⟩ := hg _ (lookup_mem e)
        exact .lst h1 (ls h2)
    | lst xs =>
      cases h with
      | lst h1 h2 => exact .lst h1 (ls h2)
    | _ => exact h
theorem fill_datL {g : GL} (hg : ∀ p, p ∈ g → ∃ vs, F p.1 = some (.lst vs) ∧ DatL K F vs p.2) (n : Nat) : ∀ {vs : List V} {xs : List D}, DatL K F vs xs → DatL K F vs (xs.map (fillD g n))
  | _, [], h => by cases h; exact .nil
  | _, x :: xs, h => by
    cases h with
    | cons h t => exact .cons (fill_dat hg n h) (fill_datL hg n t)
def sThin (i n : Nat) (ms : MS) : MS := fun ρ E => match ρ[i]? with
  | some (.tr (.ow xs) g) => ms (ρ.set i (.ow (xs.map (fillD g n)))) E
  | _ => False
/-- .. or not -/
def sMay (i n : Nat) (ms : MS) : MS := fun ρ E => ms ρ E ∨ sThin i n ms ρ E
theorem Rep.thin {i n : Nat} {xs : List D} {g : GL} (R : Rep K F G H fx ρ σ) (e : ρ[i]? = some (.tr (.ow xs) g)) : ∃ F', Same F F' ∧ Rep K F' G H fx (ρ.set i (.ow (xs.map (fillD g n)))) σ := by
  classical
  obtain ⟨⟨a, o, hv, h1, h2, h3, h4⟩, h5, h6⟩ := R.sl i _ e
  cases o <;> first | exact h4.elim | skip
  rename_i vs
  let F' : Hp := fun b => if b ∈ g.map (·.1) then H b else F b
  have g1 : ∀ b, b ∈ g.map (·.1) → F' b = H b := fun b h => if_pos h
  have g2 : ∀ b, b ∉ g.map (·.1) → F' b = F b := fun b h => if_neg h
  have cell : ∀ b, b ∈ g.map (·.1) → ∃ ws, H b = some (.lst ws) ∧ F b = none ∧ G b = none := fun b h => by
    obtain ⟨p, hp, rfl⟩ := List.mem_map.mp h
    obtain ⟨ws, y1, y2, y3, _⟩ := h5.2 p hp
    exact ⟨ws, y1, y2, y3⟩
  have sm : Same F F' := fun b o q => by
    rw [g2 b fun h => by
      obtain ⟨_, _, z, _⟩ := cell b h
      rw [q] at z; cases z]
    exact q
  have hg : ∀ p, p ∈ g → ∃ vs, F' p.1 = some (.lst vs) ∧ DatL K F' vs p.2 := fun p hp => by
    obtain ⟨ws, y1, _, _, y4⟩ := h5.2 p hp
    exact ⟨ws, by rw [g1 _ (List.mem_map_of_mem hp)]; exact y1, y4.mono sm⟩
  have na : a ∉ g.map (·.1) := h6 a hv
  have back : ∀ j b, Owns (ρ.set i (.ow (xs.map (fillD g n)))) σ j b → Owns ρ σ j b := fun j b ⟨x, q, z⟩ => by
    rcases set_get? q with ⟨rfl, rfl⟩ | ⟨hj, q⟩
    · exact ⟨_, e, .inl z⟩
    · exact ⟨x, q, z⟩
  refine ⟨F', sm, fun b u q => ?_, R.gh, fun b u q => ?_, by rw [List.length_set]; exact R.len, fun j x q => ?_, fun j k b q1 q2 => R.nd j k b (back j b q1) (back k b q2), R.fix⟩
  · by_cases h : b ∈ g.map (·.1)
    · rw [g1 b h] at q; exact .inl q
    · rw [g2 b h] at q; exact R.fh _ _ q
  · by_cases h : b ∈ g.map (·.1)
    · obtain ⟨_, _, _, z⟩ := cell b h
      exact .inl z
    · rw [g2 b h] at q; exact R.fg _ _ q
  · rcases set_get? q with ⟨rfl, rfl⟩ | ⟨hj, q⟩
    · exact ⟨a, .lst vs, hv, h1, by rw [g2 a na]; exact h2, h3, fill_datL hg n (h4.mono sm)⟩
    · refine (R.sl j x q).move sm fun b hb => ?_
      obtain ⟨w, k2, k3, k4, _⟩ := (R.sl j x q).cell hb
      have nb : b ∉ g.map (·.1) := fun h => hj (R.nd j i b ⟨x, q, hb⟩ ⟨_, e, .inr h⟩)
      exact ⟨by rw [g2 b nb]; exact k3, k4, rfl⟩
theorem sb_thin (i n : Nat) {st : List Stmt} {ms : MS} (h : SB X fx W st ms) : SB X fx W st (sThin i n ms) := pss_imp h fun D σ H ⟨F, G, ρ, E0, R, h, k⟩ => by
  unfold sThin at h
  split at h
  · rename_i xs g e
    obtain ⟨F', sm, R'⟩ := R.thin (n := n) e
    exact ⟨F', G, _, E0, R', h, k.mono sm⟩
  · exact h.elim
theorem sb_may (i n : Nat) {st : List Stmt} {ms : MS} (h : SB X fx W st ms) : SB X fx W st (sMay i n ms) := pss_imp h fun D σ H ⟨F, G, ρ, E0, R, h', k⟩ => by
  rcases h' with h' | h'
  · exact ⟨F, G, ρ, E0, R, h', k⟩
  · unfold sThin at h'
    split at h'
    · rename_i xs g e
      obtain ⟨F', sm, R'⟩ := R.thin (n := n) e
      exact ⟨F', G, _, E0, R', h', k.mono sm⟩
    · exact h'.elim
end
end BB

namespace BB
open PySem PySem.Spec PyProof.Rows L2
/-! ### the list methods at a place -/
section
variable {X : Cx} {fx : List (Nat × Addr)} {W : WX} {e o : Expr} {ma mo : M} {apos cpos : Pos}
theorem es_appendR (ho : ES X fx W o mo) (ha : ES X fx W e ma)
    (hbase : attributeBase o "append" X.env (eval o X.env) = eval o X.env := by rfl)
    (hfew : ((backTo cpos (starEach [e] X.env)).all (fun x => !x.1) && (backToKw cpos (keywordEach [] X.env)).all (fun x => x.1.isSome)
      && decide ([e].length + ([] : List Keyword).length + (if ([] : List Keyword).isEmpty then 0 else 1) < 30)) = true := by rfl)
    (hline : (apos.endLine == cpos.line) = true := by rfl) (hs : starEach [e] X.env = (false, eval e X.env) :: starEach [] X.env := by rfl) :
    ES X fx W (.Call (.Attribute o "append" apos) [e] [] cpos) (mOwnR mo pApp (lCons ma lNil)) :=
  es_ownR PySem.F.slot_list_append PySem.F.type_list_append mt_append sndo_app ho (el_cons ha el_nil hs) hbase hfew hline hs rfl
theorem es_extendR (ho : ES X fx W o mo) (ha : ES X fx W e ma)
    (hbase : attributeBase o "extend" X.env (eval o X.env) = eval o X.env := by rfl)
    (hfew : ((backTo cpos (starEach [e] X.env)).all (fun x => !x.1) && (backToKw cpos (keywordEach [] X.env)).all (fun x => x.1.isSome)
      && decide ([e].length + ([] : List Keyword).length + (if ([] : List Keyword).isEmpty then 0 else 1) < 30)) = true := by rfl)
    (hline : (apos.endLine == cpos.line) = true := by rfl) (hs : starEach [e] X.env = (false, eval e X.env) :: starEach [] X.env := by rfl) :
    ES X fx W (.Call (.Attribute o "extend" apos) [e] [] cpos) (mOwnR mo pExt (lCons ma lNil)) :=
  es_ownR PySem.F.slot_list_extend PySem.F.type_list_extend mt_extend sndo_ext ho (el_cons ha el_nil hs) hbase hfew hline hs rfl
theorem es_popR (ho : ES X fx W o mo) (hbase : attributeBase o "pop" X.env (eval o X.env) = eval o X.env := by rfl) (hline : (apos.endLine == cpos.line) = true := by rfl) :
    ES X fx W (.Call (.Attribute o "pop" apos) [] [] cpos) (mOwnR mo pPop lNil) :=
  es_ownR0 PySem.F.slot_list_pop PySem.F.type_list_pop mt_pop sndo_pop ho hbase hline
theorem es_reverseR (ho : ES X fx W o mo) (hbase : attributeBase o "reverse" X.env (eval o X.env) = eval o X.env := by rfl) (hline : (apos.endLine == cpos.line) = true := by rfl) :
    ES X fx W (.Call (.Attribute o "reverse" apos) [] [] cpos) (mOwnR mo pRev lNil) :=
  es_ownR0 PySem.F.slot_list_reverse PySem.F.type_list_reverse mt_reverse sndo_rev ho hbase hline
end
end BB

namespace BB
open PySem PySem.Spec PyProof.Rows L2
/-! ### laws of loops that make trees -/
theorem lvlT_inv {α : Type} {g : MG} {mt : MT} {vs : List Nat} {rest : MKT} {k : List D → GL → DE → Prop} {enc : α → D} {ρ : DE} {l : List α} (J : Nat → List D → GL → Prop) (n : Nat) {acc : List D} {gg : GL} (h0 : J n acc gg)
    (hs : ∀ i x, l[i]? = some x → ∀ acc gg, J (n + i) acc gg → ∀ kt : List D → GL → DE → Prop, (∀ acc' gg' ρ', J (n + i + 1) acc' gg' → wipeD ρ' vs = wipeD ρ vs → kt acc' gg' ρ') →
      g (enc x) (wipeD ρ vs) fun ρ1 => mt ρ1 (fun b ρ2 => if b = true then rest acc gg ρ2 kt else kt acc gg ρ2) fun _ _ _ => False)
    (hd : ∀ acc gg ρ', J (n + l.length) acc gg → wipeD ρ' vs = wipeD ρ vs → k acc gg ρ') : lvlT g mt vs rest (l.map enc) acc gg ρ k := by
  have main : ∀ (l : List α) (n : Nat) (acc : List D) (gg : GL) (ρ0 : DE), wipeD ρ0 vs = wipeD ρ vs → J n acc gg →
      (∀ i x, l[i]? = some x → ∀ acc gg, J (n + i) acc gg → ∀ kt : List D → GL → DE → Prop, (∀ acc' gg' ρ', J (n + i + 1) acc' gg' → wipeD ρ' vs = wipeD ρ vs → kt acc' gg' ρ') →
        g (enc x) (wipeD ρ vs) fun ρ1 => mt ρ1 (fun b ρ2 => if b = true then rest acc gg ρ2 kt else kt acc gg ρ2) fun _ _ _ => False) →
      (∀ acc gg ρ', J (n + l.length) acc gg → wipeD ρ' vs = wipeD ρ vs → k acc gg ρ') → lvlT g mt vs rest (l.map enc) acc gg ρ0 k := by
    intro l
    induction l with
    | nil => intro n acc gg ρ0 hw h0 hs hd; exact hd acc gg ρ0 h0 hw
    | cons x l ih =>
      intro n acc gg ρ0 hw h0 hs hd
      show g (enc x) (wipeD ρ0 vs) fun ρ1 => mt ρ1 (fun b ρ2 => if b = true then rest acc gg ρ2 (fun acc' gg' ρ3 => lvlT g mt vs rest (l.map enc) acc' gg' ρ3 k) else lvlT g mt vs rest (l.map enc) acc gg ρ2 k) fun _ _ _ => False
      rw [hw]
      refine hs 0 x rfl acc gg h0 (fun acc' gg' ρ3 => lvlT g mt vs rest (l.map enc) acc' gg' ρ3 k) fun acc' gg' ρ' hj hw' => ih (n + 1) acc' gg' ρ' hw' hj (fun i y hy acc2 gg2 hj2 kt hk => ?_) fun acc2 gg2 ρ2 hj2 hw2 => hd acc2 gg2 ρ2 ?_ hw2
      · have e : n + (i + 1) = n + 1 + i := by omega
        refine hs (i + 1) y (by simpa using hy) acc2 gg2 (by rw [e]; exact hj2) kt fun acc' gg' ρ' hj' => hk acc' gg' ρ' ?_
        rw [e] at hj'
        exact hj'
      · rw [List.length_cons, show n + (l.length + 1) = n + 1 + l.length by omega]
        exact hj2
  exact main l n acc gg ρ rfl h0 hs hd
/-! ### squares of forms as trees -/
abbrev TR := Addr × List Addr × List Form
def rowG (t : TR) : GL := (t.1, t.2.1.map D.adr) :: t.2.1.zip (t.2.2.map fun f => f.map pairD)
def treeG (ts : List TR) : GL := ts.flatMap rowG
def treeA (ts : List TR) : List D := ts.map fun t => .adr t.1
structure TreeOk (ts : List TR) (rows : List (List Form)) : Prop where
  rows : ts.map (fun t => t.2.2) = rows
  len : ∀ t, t ∈ ts → t.2.1.length = t.2.2.length
  nd : ((treeG ts).map (·.1)).Nodup
theorem look_of {β : Type} {a : Addr} {x : β} : ∀ {l : List (Addr × β)}, (l.map (·.1)).Nodup → (a, x) ∈ l → l.lookup a = some x
  | [], _, h => by cases h
  | (b, y) :: l, n, h => by
    rw [List.map_cons, List.nodup_cons] at n
    rw [List.lookup_cons]
    rcases List.mem_cons.mp h with q | q
    · cases q
      rw [beq_self_eq_true]
    · have ne : a ≠ b := fun z => n.1 (by rw [← z]; exact List.mem_map.mpr ⟨(a, x), q, rfl⟩)
      rw [show (a == b) = false by simpa using ne]
      exact look_of n.2 q
theorem TreeOk.row {ts : List TR} {rows : List (List Form)} (h : TreeOk ts rows) {t : TR} (ht : t ∈ ts) : (treeG ts).lookup t.1 = some (t.2.1.map D.adr) :=
  look_of h.nd (List.mem_flatMap.mpr ⟨t, ht, List.mem_cons_self⟩)
theorem zip_at {α β : Type} : ∀ {l : List α} {m : List β} {j : Nat} {x : α} {y : β}, l[j]? = some x → m[j]? = some y → (x, y) ∈ l.zip m
  | a :: l, b :: m, 0, x, y, h1, h2 => by simp at h1 h2; subst h1 h2; exact List.mem_cons_self
  | a :: l, b :: m, j + 1, x, y, h1, h2 => List.mem_cons_of_mem _ (zip_at (l := l) (m := m) (j := j) (by simpa using h1) (by simpa using h2))
  | [], _, _, _, _, h1, _ => by simp at h1
  | _ :: _, [], _, _, _, _, h2 => by simp at h2
theorem TreeOk.pane {ts : List TR} {rows : List (List Form)} (h : TreeOk ts rows) {t : TR} (ht : t ∈ ts) {j : Nat} {p : Addr} {f : Form} (hp : t.2.1[j]? = some p) (hf : t.2.2[j]? = some f) : (treeG ts).lookup p = some (f.map pairD) :=
  look_of h.nd (List.mem_flatMap.mpr ⟨t, ht, List.mem_cons_of_mem _ (zip_at hp (by rw [List.getElem?_map, hf]; rfl))⟩)
theorem fill_pairs (gg : GL) (n : Nat) (f : Form) : (f.map pairD).map (fillD gg n) = f.map pairD := by
  rw [List.map_map]
  refine List.map_congr_left fun c _ => ?_
  cases n <;> rfl
theorem fill_row {gg : GL} {ps : List Addr} {r : List Form} (hl : ps.length = r.length) (h : ∀ (j : Nat) (p : Addr) (f : Form), ps[j]? = some p → r[j]? = some f → gg.lookup p = some (f.map pairD)) : (ps.map D.adr).map (fillD gg 2) = r.map formL := by
  apply List.ext_getElem?
  intro j
  rw [List.getElem?_map, List.getElem?_map, List.getElem?_map]
  cases e : ps[j]? with
  | none =>
    have : r[j]? = none := List.getElem?_eq_none (by have := List.getElem?_eq_none_iff.mp e; omega)
    rw [this]; rfl
  | some p =>
    have hj : j < r.length := by have := (List.getElem?_eq_some_iff.mp e).1; omega
    have e2 : r[j]? = some r[j] := List.getElem?_eq_getElem hj
    rw [e2]
    show some (fillD gg 2 (.adr p)) = some (formL r[j])
    have z : fillD gg 2 (.adr p) = match gg.lookup p with
      | some xs => .lst (xs.map (fillD gg 1))
      | none => .adr p := rfl
    rw [z, h j p _ e e2]
    show some (D.lst _) = some (D.lst _)
    rw [fill_pairs]
theorem TreeOk.fill {ts : List TR} {rows : List (List Form)} (h : TreeOk ts rows) : (treeA ts).map (fillD (treeG ts) 3) = rows.map fun r => .lst (r.map formL) := by
  rw [← h.rows]
  unfold treeA
  rw [List.map_map, List.map_map]
  refine List.map_congr_left fun t ht => ?_
  have z : fillD (treeG ts) 3 (.adr t.1) = match (treeG ts).lookup t.1 with
    | some xs => .lst (xs.map (fillD (treeG ts) 2))
    | none => .adr t.1 := rfl
  show fillD (treeG ts) 3 (.adr t.1) = D.lst (t.2.2.map formL)
  rw [z, h.row ht]
  show D.lst _ = D.lst _
  rw [fill_row (h.len t ht) fun j p f hp hf => h.pane ht hp hf]
theorem setG_app {g g' : GL} {a : Addr} {ys : List D} : setG (g ++ g') a ys = setG g a ys ++ setG g' a ys := List.map_append
theorem setG_not {a : Addr} {ys : List D} : ∀ {g : GL}, a ∉ g.map (·.1) → setG g a ys = g
  | [], _ => rfl
  | p :: g, h => by
    rw [List.map_cons, List.mem_cons] at h
    have h1 : ¬ (p.1 = a) := fun z => h (.inl z.symm)
    show (if p.1 = a then (a, ys) else p) :: setG g a ys = p :: g
    rw [if_neg h1, setG_not fun z => h (.inr z)]
theorem setG_zip {p : Addr} {ys : List D} : ∀ {ps : List Addr} {r : List (List D)} {j : Nat}, ps.Nodup → ps[j]? = some p → j < r.length → setG (ps.zip r) p ys = ps.zip (r.set j ys)
  | [], _, _, _, h, _ => by simp at h
  | _ :: _, [], j, _, _, h => by simp at h
  | a :: ps, x :: r, 0, n, h, _ => by
    simp at h
    subst h
    have n' := (List.nodup_cons.mp n).1
    show (if a = a then (a, ys) else (a, x)) :: setG (ps.zip r) a ys = (a, ys) :: ps.zip r
    rw [if_pos rfl, setG_not fun z => n' (by
      obtain ⟨q, hq, e⟩ := List.mem_map.mp z
      have := (List.of_mem_zip hq).1
      rw [← e]; exact this)]
  | a :: ps, x :: r, j + 1, n, h, hl => by
    have h' : ps[j]? = some p := by simpa using h
    have ne : a ≠ p := fun z => (List.nodup_cons.mp n).1 (by rw [z]; exact List.mem_of_getElem? h')
    show (if a = p then (p, ys) else (a, x)) :: setG (ps.zip r) p ys = (a, x) :: ps.zip (r.set j ys)
    rw [if_neg ne, setG_zip (List.nodup_cons.mp n).2 h' (by simpa using hl)]
theorem rowG_keys {t : TR} (h : t.2.1.length = t.2.2.length) : (rowG t).map (·.1) = t.1 :: t.2.1 := by
  show t.1 :: (t.2.1.zip (t.2.2.map fun f => f.map pairD)).map (·.1) = _
  rw [List.map_fst_zip (by rw [List.length_map]; omega)]
theorem treeG_cons {t : TR} {ts : List TR} : treeG (t :: ts) = rowG t ++ treeG ts := List.flatMap_cons
theorem key_in {ts : List TR} (hl : ∀ t, t ∈ ts → t.2.1.length = t.2.2.length) {t : TR} (ht : t ∈ ts) {p : Addr} (hp : p ∈ t.2.1) : p ∈ (treeG ts).map (·.1) := by
  unfold treeG
  rw [List.map_flatMap]
  refine List.mem_flatMap.mpr ⟨t, ht, ?_⟩
  rw [rowG_keys (hl t ht)]
  exact List.mem_cons_of_mem _ hp
theorem setG_tree {p : Addr} {f : Form} {j : Nat} {t : TR} : ∀ {ts : List TR} {i : Nat}, ((treeG ts).map (·.1)).Nodup → (∀ t, t ∈ ts → t.2.1.length = t.2.2.length) → ts[i]? = some t → t.2.1[j]? = some p →
    setG (treeG ts) p (f.map pairD) = treeG (ts.set i (t.1, t.2.1, t.2.2.set j f))
  | [], _, _, _, h, _ => by simp at h
  | t0 :: ts, 0, n, hl, h, hp => by
    simp at h
    subst h
    have l0 := hl t0 List.mem_cons_self
    rw [treeG_cons, List.map_append, rowG_keys l0] at n
    obtain ⟨n1, n2, n3⟩ := List.nodup_append.mp n
    have hj := (List.getElem?_eq_some_iff.mp hp).1
    have pm : p ∈ t0.2.1 := List.mem_of_getElem? hp
    have ne : t0.1 ≠ p := fun z => (List.nodup_cons.mp n1).1 (by rw [z]; exact pm)
    show setG (treeG (t0 :: ts)) p (f.map pairD) = treeG ((t0.1, t0.2.1, t0.2.2.set j f) :: ts)
    rw [treeG_cons, treeG_cons, setG_app, setG_not (g := treeG ts) fun z => n3 p (List.mem_cons_of_mem _ pm) p z rfl]
    congr 1
    show (if t0.1 = p then (p, f.map pairD) else (t0.1, t0.2.1.map D.adr)) :: setG (t0.2.1.zip (t0.2.2.map fun f => f.map pairD)) p (f.map pairD) = (t0.1, t0.2.1.map D.adr) :: t0.2.1.zip ((t0.2.2.set j f).map fun f => f.map pairD)
    rw [if_neg ne, setG_zip (List.nodup_cons.mp n1).2 hp (by rw [List.length_map]; omega), List.map_set]
  | t0 :: ts, i + 1, n, hl, h, hp => by
    have h' : ts[i]? = some t := by simpa using h
    have l0 := hl t0 List.mem_cons_self
    rw [treeG_cons, List.map_append, rowG_keys l0] at n
    obtain ⟨n1, n2, n3⟩ := List.nodup_append.mp n
    have hl' : ∀ t, t ∈ ts → t.2.1.length = t.2.2.length := fun t ht => hl t (List.mem_cons_of_mem _ ht)
    have pin := key_in hl' (List.mem_of_getElem? h') (List.mem_of_getElem? hp)
    show setG (treeG (t0 :: ts)) p (f.map pairD) = treeG (t0 :: ts.set i (t.1, t.2.1, t.2.2.set j f))
    rw [treeG_cons, treeG_cons, setG_app, setG_not (g := rowG t0) fun z => n3 p (by rw [rowG_keys l0] at z; exact z) p pin rfl, setG_tree n2 hl' h' hp]
theorem TreeOk.put {ts : List TR} {rows : List (List Form)} (h : TreeOk ts rows) {i j : Nat} {t : TR} {p : Addr} (f : Form) (ht : ts[i]? = some t) (hp : t.2.1[j]? = some p) :
    setG (treeG ts) p (f.map pairD) = treeG (ts.set i (t.1, t.2.1, t.2.2.set j f)) ∧ treeA (ts.set i (t.1, t.2.1, t.2.2.set j f)) = treeA ts ∧ TreeOk (ts.set i (t.1, t.2.1, t.2.2.set j f)) (rows.set i (t.2.2.set j f)) := by
  have e := setG_tree (f := f) h.nd h.len ht hp
  have hm := List.mem_of_getElem? ht
  refine ⟨e, ?_, ?_, fun u hu => ?_, ?_⟩
  · unfold treeA
    rw [List.map_set]
    apply List.ext_getElem?
    intro k
    by_cases c : k = i
    · subst c
      have hlt := (List.getElem?_eq_some_iff.mp ht).1
      rw [List.getElem?_set_self (by rw [List.length_map]; exact hlt), List.getElem?_map, ht]
      rfl
    · rw [List.getElem?_set_ne (Ne.symm c)]
  · rw [List.map_set, h.rows]
  · rcases List.mem_or_eq_of_mem_set hu with hu | rfl
    · exact h.len u hu
    · show t.2.1.length = (t.2.2.set j f).length
      rw [List.length_set]
      exact h.len t hm
  · rw [← e, setG_keys]
    exact h.nd
end BB

namespace BB
open PySem PySem.Spec PyProof.Rows L2
/-- a kind of book as a law bends it -/
structure MateOk (b : Nat) (ls : List Line) : Prop where
  bi : BookIn b ls
  st : ∀ x, x ∈ ls → x.2.1.natAbs ≤ 200
  fm : ∀ x, x ∈ ls → ∀ r, r ∈ x.2.2 → ∀ f, f ∈ r → f.length ≤ 8 ∧ ∀ k, k ∈ f → k.1.natAbs ≤ 20
theorem KindOk.mate {b : Nat} {ls : List Line} (h : KindOk b ls) : MateOk b ls where
  bi := h.bi
  st := fun x hx => by have := (h.ln x hx).st; omega
  fm := fun x hx r hr f hf => ⟨by have := ((h.ln x hx).fm r hr f hf).1; omega, fun k hk => by have := (((h.ln x hx).fm r hr f hf).2 k hk).1; omega⟩
/-- a row is copied pane by pane -/
def PaneJ (r : List Form) (n : Nat) (acc : List D) (gg : GL) : Prop := ∃ ps : List Addr, ps.length = n ∧ ps.Nodup ∧ acc = ps.map D.adr ∧ gg = ps.zip ((r.take n).map fun f => f.map pairD)
def TreeJ (rows : List (List Form)) (n : Nat) (acc : List D) (gg : GL) : Prop := ∃ ts : List TR, TreeOk ts (rows.take n) ∧ acc = treeA ts ∧ gg = treeG ts
theorem PaneJ.zero (r : List Form) : PaneJ r 0 [] [] := ⟨[], rfl, List.nodup_nil, rfl, rfl⟩
theorem TreeJ.zero (rows : List (List Form)) : TreeJ rows 0 [] [] := ⟨[], ⟨rfl, (fun t ht => by cases ht), List.nodup_nil⟩, rfl, rfl⟩
theorem PaneJ.keys {r : List Form} {n : Nat} {ps : List Addr} (h : ps.length = n) (hn : n ≤ r.length) : (ps.zip ((r.take n).map fun f => f.map pairD)).map (·.1) = ps := by
  rw [List.map_fst_zip]
  rw [List.length_map, List.length_take]
  omega
theorem PaneJ.step {r : List Form} {n : Nat} {acc : List D} {gg : GL} {a : Addr} {f : Form} (h : PaneJ r n acc gg) (hf : r[n]? = some f) (hd : (gg.map (·.1) ++ [a]).Nodup) : PaneJ r (n + 1) (acc ++ [.adr a]) (gg ++ [(a, f.map pairD)]) := by
  obtain ⟨ps, h1, h2, rfl, rfl⟩ := h
  have hn : n < r.length := (List.getElem?_eq_some_iff.mp hf).1
  rw [PaneJ.keys h1 (by omega)] at hd
  refine ⟨ps ++ [a], by rw [List.length_append, h1]; rfl, hd, by rw [List.map_append]; rfl, ?_⟩
  rw [List.take_add_one, hf, Option.toList_some, List.map_append, List.zip_append (by rw [List.length_map, List.length_take]; omega)]
  rfl
theorem PaneJ.fin {r : List Form} {rows : List (List Form)} {n : Nat} {acc acc' : List D} {gg gg' : GL} {a : Addr} (h : PaneJ r r.length acc' gg') (t : TreeJ rows n acc gg) (hr : rows[n]? = some r) (hd : (gg.map (·.1) ++ a :: gg'.map (·.1)).Nodup) : TreeJ rows (n + 1) (acc ++ [.adr a]) (gg ++ (a, acc') :: gg') := by
  obtain ⟨ps, h1, h2, rfl, rfl⟩ := h
  obtain ⟨ts, t1, rfl, rfl⟩ := t
  rw [List.take_length] at hd ⊢
  have e : treeG (ts ++ [(a, ps, r)]) = treeG ts ++ (a, ps.map D.adr) :: ps.zip (r.map fun f => f.map pairD) := by
    unfold treeG
    rw [List.flatMap_append, List.flatMap_cons, List.flatMap_nil, List.append_nil]
    rfl
  refine ⟨ts ++ [(a, ps, r)], ⟨?_, fun t ht => ?_, ?_⟩, by unfold treeA; rw [List.map_append]; rfl, e.symm⟩
  · rw [List.map_append, t1.rows, List.take_add_one, hr]
    rfl
  · rcases List.mem_append.mp ht with ht | ht
    · exact t1.len t ht
    · rw [List.mem_singleton.mp ht]
      exact h1
  · rw [e, List.map_append]
    exact hd
theorem PaneJ.len {r : List Form} {n : Nat} {acc : List D} {gg : GL} (h : PaneJ r n acc gg) : acc.length = n := by
  obtain ⟨ps, h1, _, rfl, _⟩ := h
  rw [List.length_map, h1]
theorem TreeJ.len {rows : List (List Form)} {n : Nat} {acc : List D} {gg : GL} (h : TreeJ rows n acc gg) (hn : n ≤ rows.length) : acc.length = n := by
  obtain ⟨ts, h1, rfl, _⟩ := h
  have : ts.length = (rows.take n).length := by rw [← h1.rows, List.length_map]
  unfold treeA
  rw [List.length_map, this, List.length_take]
  omega
/-! ### readings of places by what stands in a slot -/
def grS (o : Option SV) (a : Addr) : Option D := match o with
  | some (.tr _ g) => (g.lookup a).map D.lst
  | _ => none
section
variable {ρ : DE} {i j : Nat} {a : Addr} {s : SV} {g : GL} {xs : List D}
theorem keep_gr : (RV.gr j a).keep = .gr j a := rfl
theorem at_gr : (RV.gr j a).at ρ = grS ρ[j]? a := rfl
theorem grS_tr : grS (some (.tr s g)) a = (g.lookup a).map D.lst := rfl
def wrS (o : Option SV) (ρ : DE) (j : Nat) (a : Addr) : Option (List D × (List D → DE)) := match o with
  | some (.tr s g) => match g.lookup a with
    | some xs => some (xs, fun ys => ρ.set j (.tr s (setG g a ys)))
    | none => none
  | _ => none
def wrL (o : Option SV) (ρ : DE) (i : Nat) : Option (List D × (List D → DE)) := match o with
  | some (.ow xs) => some (xs, fun ys => ρ.set i (.ow ys))
  | some (.tr (.ow xs) g) => some (xs, fun ys => ρ.set i (.tr (.ow ys) g))
  | _ => none
theorem wr_gr : wrAt (.gr j a) ρ = wrS ρ[j]? ρ j a := rfl
theorem wr_sl : wrAt (.sl i) ρ = wrL ρ[i]? ρ i := rfl
theorem wrS_tr (h : g.lookup a = some xs) : wrS (some (.tr s g)) ρ j a = some (xs, fun ys => ρ.set j (.tr s (setG g a ys))) := by
  simp only [wrS, h]
theorem wrL_tr : wrL (some (.tr (.ow xs) g)) ρ i = some (xs, fun ys => ρ.set i (.tr (.ow ys) g)) := rfl
theorem wrL_ow : wrL (some (.ow xs)) ρ i = some (xs, fun ys => ρ.set i (.ow ys)) := rfl
end
theorem atI_tree {ts : List TR} {i : Int} {t : TR} (h : atI ts i = some t) : atI (treeA ts) i = some (.adr t.1) := by
  unfold treeA
  rw [atI_map, h]; rfl
theorem ixN_last {n : Nat} (h : 1 ≤ n) : ixN n (-1) = some (n - 1) := by
  unfold ixN
  simp
  omega
theorem atI_last {α : Type} {xs : List α} {x : α} (h : 1 ≤ xs.length) (e : xs[xs.length - 1]? = some x) : atI xs (-1) = some x := by
  rw [atI_of (ixN_last h), e]
/-! ### one pane of a tree is changed by and by -/
def TT (ts : List TR) (i j : Nat) (t : TR) (f : Form) : List TR := ts.set i (t.1, t.2.1, t.2.2.set j f)
structure EdOk (ts : List TR) (rows : List (List Form)) (i j : Nat) (t : TR) (p : Addr) : Prop where
  ok : TreeOk ts rows
  ti : ts[i]? = some t
  pj : t.2.1[j]? = some p
section
variable {ts : List TR} {rows : List (List Form)} {i j : Nat} {t : TR} {p : Addr}
theorem EdOk.tree (h : EdOk ts rows i j t p) (f : Form) : TreeOk (TT ts i j t f) (rows.set i (t.2.2.set j f)) := (h.ok.put f h.ti h.pj).2.2
theorem EdOk.top (h : EdOk ts rows i j t p) (f : Form) : treeA (TT ts i j t f) = treeA ts := (h.ok.put f h.ti h.pj).2.1
theorem EdOk.at (h : EdOk ts rows i j t p) (f : Form) : (TT ts i j t f)[i]? = some (t.1, t.2.1, t.2.2.set j f) := List.getElem?_set_self (List.getElem?_eq_some_iff.mp h.ti).1
theorem EdOk.get (h : EdOk ts rows i j t p) (f : Form) : (treeG (TT ts i j t f)).lookup p = some (f.map BB.pairD) := by
  have hj := (List.getElem?_eq_some_iff.mp h.pj).1
  have hl := h.ok.len t (List.mem_of_getElem? h.ti)
  exact (h.tree f).pane (List.mem_of_getElem? (h.at f)) h.pj (List.getElem?_set_self (by omega))
theorem EdOk.set (h : EdOk ts rows i j t p) (f f' : Form) : setG (treeG (TT ts i j t f)) p (f'.map BB.pairD) = treeG (TT ts i j t f') := by
  have z := ((h.tree f).put f' (h.at f) h.pj).1
  rw [z]
  show treeG ((ts.set i (t.1, t.2.1, t.2.2.set j f)).set i (t.1, t.2.1, (t.2.2.set j f).set j f')) = _
  rw [List.set_set, List.set_set]
  rfl
theorem EdOk.zero (h : EdOk ts rows i j t p) {f : Form} (hf : t.2.2[j]? = some f) : TT ts i j t f = ts := by
  have e1 : t.2.2.set j f = t.2.2 := by
    apply List.ext_getElem?
    intro k
    by_cases c : k = j
    · subst c; rw [List.getElem?_set_self (List.getElem?_eq_some_iff.mp hf).1, hf]
    · rw [List.getElem?_set_ne (Ne.symm c)]
  unfold TT
  rw [e1]
  apply List.ext_getElem?
  intro k
  by_cases c : k = i
  · subst c; rw [List.getElem?_set_self (List.getElem?_eq_some_iff.mp h.ti).1, h.ti]
  · rw [List.getElem?_set_ne (Ne.symm c)]
end
def GoodF (n m : Nat) (L : List Str) (f : Form) : Prop := f.length ≤ n ∧ ∀ k, k ∈ f → k.1.natAbs ≤ m ∧ k.2 ∈ L
theorem GoodF.mono {n m n' m' : Nat} {L : List Str} {f : Form} (h : GoodF n m L f) (hn : n ≤ n') (hm : m ≤ m') : GoodF n' m' L f := ⟨Nat.le_trans h.1 hn, fun k hk => ⟨Nat.le_trans (h.2 k hk).1 hm, (h.2 k hk).2⟩⟩
theorem GoodF.app {n m n' : Nat} {L : List Str} {f g : Form} (h : GoodF n m L f) (h' : GoodF n' m L g) : GoodF (n + n') m L (f ++ g) := ⟨by rw [List.length_append]; exact Nat.add_le_add h.1 h'.1, fun k hk => by
  rcases List.mem_append.mp hk with hk | hk
  · exact h.2 k hk
  · exact h'.2 k hk⟩
theorem GoodF.rev {n m : Nat} {L : List Str} {f : Form} (h : GoodF n m L f) : GoodF n m L f.reverse := ⟨by rw [List.length_reverse]; exact h.1, fun k hk => h.2 k (List.mem_reverse.mp hk)⟩
theorem MateOk.rev {b : Nat} {ls : List Line} (h : MateOk b ls) : MateOk b ls.reverse := ⟨h.bi.rev, fun x hx => h.st x (List.mem_reverse.mp hx), fun x hx => h.fm x (List.mem_reverse.mp hx)⟩
theorem fEq_form (neg : Bool) {f g : Form} (h : ∀ c, c ∈ f → OkS c.2) (h' : ∀ c, c ∈ g → OkS c.2) (Q : RV → Prop) : fEq neg (formL f) (formL g) Q = Q (.v (.bl (if neg then !(decide (f = g)) else decide (f = g)))) :=
  enc_formL.fEq (by decide) (fun _ _ => .inl rfl) (fun c hc => ⟨trivial, h c hc⟩) (fun c hc => ⟨trivial, h' c hc⟩) neg Q
theorem fEq_formN {f : Form} (h : ∀ c, c ∈ f → OkS c.2) (Q : RV → Prop) : fEq true (.lst (f.map BB.pairD)) (.lst []) Q = Q (.v (.bl (!(decide (f = []))))) := fEq_form true (g := []) h (fun c hc => by cases hc) Q
theorem ixN_zero {n : Nat} : ixN (n + 1) 0 = some 0 := by
  unfold ixN
  rw [if_pos (by decide), if_pos (by omega)]
  rfl
def GoodR (b : Nat) (L : List Str) (rows : List (List Form)) : Prop := rows.length = b ∧ ∀ r, r ∈ rows → r.length = b ∧ ∀ f, f ∈ r → GoodF 7 10 L f
theorem GoodR.put {b : Nat} {L : List Str} {rows : List (List Form)} {i j : Nat} {r : List Form} {f : Form} (h : GoodR b L rows) (hr : r ∈ rows) (hf : GoodF 7 10 L f) : GoodR b L (rows.set i (r.set j f)) := by
  refine ⟨by rw [List.length_set]; exact h.1, fun x hx => ?_⟩
  rcases List.mem_or_eq_of_mem_set hx with hx | rfl
  · exact h.2 x hx
  · refine ⟨by rw [List.length_set]; exact (h.2 r hr).1, fun g hg => ?_⟩
    rcases List.mem_or_eq_of_mem_set hg with hg | rfl
    · exact (h.2 r hr).2 g hg
    · exact hf
theorem LineOk.goodR {b : Nat} {L : List Str} {x : Line} (h : LineOk b L x) : GoodR b L x.2.2 := ⟨h.sq.1, fun r hr => ⟨h.sq.2 r hr, fun f hf => ⟨by have := (h.fm r hr f hf).1; omega, fun k hk => ⟨by have := ((h.fm r hr f hf).2 k hk).1; omega, ((h.fm r hr f hf).2 k hk).2⟩⟩⟩⟩
theorem nms_put {ls : List Line} {i : Nat} {x y : Line} (h : ls[i]? = some x) (e : y.1 = x.1) : nmsOf (ls.set i y) = nmsOf ls := by
  unfold nmsOf
  rw [List.map_set]
  apply List.ext_getElem?
  intro k
  by_cases c : k = i
  · subst c
    rw [List.getElem?_set_self (by rw [List.length_map]; exact (List.getElem?_eq_some_iff.mp h).1), List.getElem?_map, h, e]
    rfl
  · rw [List.getElem?_set_ne (Ne.symm c)]
theorem MateOk.put {b : Nat} {ls : List Line} {i : Nat} {x y : Line} (h : MateOk b ls) (hx : ls[i]? = some x) (e : y.1 = x.1) (hy : y.2.1.natAbs ≤ 200) (g : GoodR b (nmsOf ls) y.2.2) : MateOk b (ls.set i y) where
  bi := {
    ok := {
      few := by rw [List.length_set]; exact h.bi.ok.few
      base := h.bi.ok.base
      nm := by rw [nms_put hx e]; exact h.bi.ok.nm
      sq := fun z hz => by
        rcases List.mem_or_eq_of_mem_set hz with hz | rfl
        · exact h.bi.ok.sq z hz
        · exact ⟨g.1, fun r hr => (g.2 r hr).1⟩
      fm := fun z hz r hr f hf c hc => by
        rw [nms_put hx e]
        rcases List.mem_or_eq_of_mem_set hz with hz | rfl
        · exact h.bi.ok.fm z hz r hr f hf c hc
        · exact (((g.2 r hr).2 f hf).2 c hc).2 }
    two := h.bi.two
    nd := by rw [nms_put hx e]; exact h.bi.nd
    nam := by rw [nms_put hx e]; exact h.bi.nam
    sz := by rw [nms_put hx e]; exact h.bi.sz
    fl := fun z hz r hr f hf => by
      rcases List.mem_or_eq_of_mem_set hz with hz | rfl
      · exact h.bi.fl z hz r hr f hf
      · have := ((g.2 r hr).2 f hf).1; omega }
  st := fun z hz => by
    rcases List.mem_or_eq_of_mem_set hz with hz | rfl
    · exact h.st z hz
    · exact hy
  fm := fun z hz r hr f hf => by
    rcases List.mem_or_eq_of_mem_set hz with hz | rfl
    · exact h.fm z hz r hr f hf
    · have g1 := (g.2 r hr).2 f hf
      exact ⟨by have := g1.1; omega, fun k hk => by have := (g1.2 k hk).1; omega⟩
theorem ixN_of {n i : Nat} (h : i < n) : ixN n (i : Int) = some i := by
  unfold ixN
  rw [if_pos (by omega), if_pos (by omega)]
  simp
/-- a third row and a third column of nothing -/
def widen (rows : List (List Form)) : List (List Form) := rows.map (fun r => r ++ [[]]) ++ [[[], [], []]]
def widenL (ls : List Line) : List Line := ls.map fun x => (x.1, x.2.1, widen x.2.2)
theorem nms_widen (ls : List Line) : nmsOf (widenL ls) = nmsOf ls := by
  unfold nmsOf widenL
  rw [List.map_map]
  rfl
theorem mem_widen {rows : List (List Form)} {r : List Form} {f : Form} (hr : r ∈ widen rows) (hf : f ∈ r) : f = [] ∨ ∃ r', r' ∈ rows ∧ f ∈ r' := by
  unfold widen at hr
  rcases List.mem_append.mp hr with hr | hr
  · obtain ⟨r', h, rfl⟩ := List.mem_map.mp hr
    rcases List.mem_append.mp hf with hf | hf
    · exact .inr ⟨r', h, hf⟩
    · exact .inl (List.mem_singleton.mp hf)
  · rw [List.mem_singleton.mp hr] at hf
    simp only [List.mem_cons, List.not_mem_nil, or_false, or_self] at hf
    exact .inl hf
theorem MateOk.widen {ls : List Line} (h : MateOk 2 ls) : MateOk 3 (widenL ls) where
  bi := {
    ok := {
      few := by unfold widenL; rw [List.length_map]; exact h.bi.ok.few
      base := by decide
      nm := by rw [nms_widen]; exact h.bi.ok.nm
      sq := fun z hz => by
        obtain ⟨x, hx, rfl⟩ := List.mem_map.mp hz
        obtain ⟨s1, s2⟩ := h.bi.ok.sq x hx
        refine ⟨?_, fun r hr => ?_⟩
        · show (BB.widen x.2.2).length = 3
          unfold BB.widen
          rw [List.length_append, List.length_map, s1]
          rfl
        · unfold BB.widen at hr
          rcases List.mem_append.mp hr with hr | hr
          · obtain ⟨r', h', rfl⟩ := List.mem_map.mp hr
            rw [List.length_append, s2 r' h']
            rfl
          · rw [List.mem_singleton.mp hr]
            rfl
      fm := fun z hz r hr f hf c hc => by
        rw [nms_widen]
        obtain ⟨x, hx, rfl⟩ := List.mem_map.mp hz
        rcases mem_widen hr hf with rfl | ⟨r', h1, h2⟩
        · cases hc
        · exact h.bi.ok.fm x hx r' h1 f h2 c hc }
    two := by decide
    nd := by rw [nms_widen]; exact h.bi.nd
    nam := by rw [nms_widen]; exact h.bi.nam
    sz := by rw [nms_widen]; exact h.bi.sz
    fl := fun z hz r hr f hf => by
      obtain ⟨x, hx, rfl⟩ := List.mem_map.mp hz
      rcases mem_widen hr hf with rfl | ⟨r', h1, h2⟩
      · exact Nat.zero_le _
      · exact h.bi.fl x hx r' h1 f h2 }
  st := fun z hz => by
    obtain ⟨x, hx, rfl⟩ := List.mem_map.mp hz
    exact h.st x hx
  fm := fun z hz r hr f hf => by
    obtain ⟨x, hx, rfl⟩ := List.mem_map.mp hz
    rcases mem_widen hr hf with rfl | ⟨r', h1, h2⟩
    · exact ⟨Nat.zero_le _, fun k hk => by cases hk⟩
    · exact h.fm x hx r' h1 f h2
end BB

namespace BB
open PySem PySem.Spec PyProof.Rows L2
/-! ### a letter renamed -/
def ren (x y : Str) : Str := if y = x then "k" else y
def renF (x : Str) (f : Form) : Form := f.map fun c => (c.1, ren x c.2)
def renR (x : Str) (rows : List (List Form)) : List (List Form) := rows.map fun r => r.map (renF x)
def renL (x : Str) (ls : List Line) : List Line := ls.map fun l => (ren x l.1, l.2.1, renR x l.2.2)
theorem nms_ren (x : Str) (ls : List Line) : nmsOf (renL x ls) = (nmsOf ls).map (ren x) := by
  unfold nmsOf renL
  rw [List.map_map, List.map_map]
  rfl
theorem ren_inj {x : Str} {L : List Str} (hk : ("k" : Str) ∉ L) : ∀ a, a ∈ L → ∀ b, b ∈ L → ren x a = ren x b → a = b := fun a ha b hb e => by
  unfold ren at e
  split at e
  · rename_i h1
    split at e
    · rename_i h2; rw [h1, h2]
    · exact absurd (by rw [e]; exact hb) hk
  · split at e
    · exact absurd (by rw [← e]; exact ha) hk
    · exact e
theorem nodup_on {α β : Type} {f : α → β} : ∀ {l : List α}, l.Nodup → (∀ a, a ∈ l → ∀ b, b ∈ l → f a = f b → a = b) → (l.map f).Nodup
  | [], _, _ => List.nodup_nil
  | a :: l, n, h => by
    rw [List.map_cons]
    have n' := List.nodup_cons.mp n
    refine List.nodup_cons.mpr ⟨fun hm => ?_, nodup_on n'.2 fun b hb c hc => h b (List.mem_cons_of_mem _ hb) c (List.mem_cons_of_mem _ hc)⟩
    obtain ⟨b, hb, e⟩ := List.mem_map.mp hm
    have := h b (List.mem_cons_of_mem _ hb) a List.mem_cons_self e
    exact n'.1 (by rw [← this]; exact hb)
theorem ren_all {x : Str} {L : List Str} {P : Str → Prop} (hk : P "k") (h : ∀ y, y ∈ L → P y) : ∀ y, y ∈ L.map (ren x) → P y := fun y hy => by
  obtain ⟨z, hz, rfl⟩ := List.mem_map.mp hy
  unfold ren
  split
  · exact hk
  · exact h z hz
theorem MateOk.ren {b : Nat} {ls : List Line} (x : Str) (h : MateOk b ls) (hk : ("k" : Str) ∉ nmsOf ls) : MateOk b (renL x ls) where
  bi := {
    ok := {
      few := by unfold renL; rw [List.length_map]; exact h.bi.ok.few
      base := h.bi.ok.base
      nm := by rw [nms_ren]; exact ren_all (by unfold OkS; decide +kernel) h.bi.ok.nm
      sq := fun z hz => by
        obtain ⟨l, hl, rfl⟩ := List.mem_map.mp hz
        obtain ⟨s1, s2⟩ := h.bi.ok.sq l hl
        refine ⟨?_, fun r hr => ?_⟩
        · show (renR x l.2.2).length = b
          unfold renR
          rw [List.length_map, s1]
        · obtain ⟨r', h', rfl⟩ := List.mem_map.mp hr
          rw [List.length_map, s2 r' h']
      fm := fun z hz r hr f hf c hc => by
        rw [nms_ren]
        obtain ⟨l, hl, rfl⟩ := List.mem_map.mp hz
        obtain ⟨r', h', rfl⟩ := List.mem_map.mp hr
        obtain ⟨f', hf', rfl⟩ := List.mem_map.mp hf
        obtain ⟨c', hc', rfl⟩ := List.mem_map.mp hc
        exact List.mem_map_of_mem (h.bi.ok.fm l hl r' h' f' hf' c' hc') }
    two := h.bi.two
    nd := by rw [nms_ren]; exact nodup_on h.bi.nd (ren_inj hk)
    nam := by rw [nms_ren]; exact ren_all (by decide +kernel) h.bi.nam
    sz := by rw [nms_ren]; exact ren_all (by rw [sizeLine_eq]; decide) h.bi.sz
    fl := fun z hz r hr f hf => by
      obtain ⟨l, hl, rfl⟩ := List.mem_map.mp hz
      obtain ⟨r', h', rfl⟩ := List.mem_map.mp hr
      obtain ⟨f', hf', rfl⟩ := List.mem_map.mp hf
      unfold renF
      rw [List.length_map]
      exact h.bi.fl l hl r' h' f' hf' }
  st := fun z hz => by
    obtain ⟨l, hl, rfl⟩ := List.mem_map.mp hz
    exact h.st l hl
  fm := fun z hz r hr f hf => by
    obtain ⟨l, hl, rfl⟩ := List.mem_map.mp hz
    obtain ⟨r', h', rfl⟩ := List.mem_map.mp hr
    obtain ⟨f', hf', rfl⟩ := List.mem_map.mp hf
    obtain ⟨g1, g2⟩ := h.fm l hl r' h' f' hf'
    refine ⟨by unfold renF; rw [List.length_map]; exact g1, fun k hk => ?_⟩
    obtain ⟨c', hc', rfl⟩ := List.mem_map.mp hk
    exact g2 c' hc'
end BB

namespace BB
open PySem PySem.Spec PyProof.Rows L2 TL
/-! ### texts that tell their data -/
/-- one small letter -/
def Ltr (x : Str) : Prop := ∃ c, x = ⟨#[c]⟩ ∧ 97 ≤ c ∧ c ≤ 122
theorem isNm_ltr {x : Str} (h : isNm x = true) : Ltr x := by
  unfold isNm at h
  rw [Bool.and_eq_true] at h
  obtain ⟨h1, h2⟩ := h
  have h1 : (x.length : Int) = 1 := of_decide_eq_true h1
  have hl : (tl x).length = 1 := by rw [← len_tl]; omega
  obtain ⟨c, hc⟩ := List.length_eq_one_iff.mp hl
  have hx : x = ⟨#[c]⟩ := ext_tl hc
  subst hx
  refine ⟨c, rfl, ?_⟩
  unfold strIn at h2
  rw [StrLaws.found_one] at h2
  have h3 : c ∈ lettersS.cps.toList := of_decide_eq_true h2
  have h4 : ∀ d, d ∈ lettersS.cps.toList → 97 ≤ d ∧ d ≤ 122 := by decide +kernel
  exact h4 c h3
inductive PyU : PyData → Prop
  | int (i : Int) : PyU (.int i)
  | str {x : Str} : Ltr x → PyU (.str x)
  | list {xs : List PyData} : (∀ x, x ∈ xs → PyU x) → PyU (.list xs)
  | tuple {xs : List PyData} : xs.length ≠ 1 → (∀ x, x ∈ xs → PyU x) → PyU (.tuple xs)
def Sep (r : List Nat) : Prop := ∃ c t, r = c :: t ∧ (c = 44 ∨ c = 93 ∨ c = 41)
abbrev pT (p : PyData) : List Nat := tl p.shown
theorem ltr_text {x : Str} (h : Ltr x) : ∃ c, x = ⟨#[c]⟩ ∧ tl (reprText x) = [39, c, 39] := by
  obtain ⟨c, rfl, h1, h2⟩ := h
  refine ⟨c, rfl, ?_⟩
  have h4 : ∀ d, d < 123 → 97 ≤ d → tl (reprText ⟨#[d]⟩) = [39, d, 39] := by decide +kernel
  exact h4 c (by omega) h1
theorem digs_split : ∀ {l m r s : List Nat}, NumText.AllDigits l → NumText.AllDigits m → Sep r → Sep s → l ++ r = m ++ s → l = m ∧ r = s
  | [], [], _, _, _, _, _, _, e => ⟨rfl, e⟩
  | [], d :: m, r, s, _, hm, ⟨c, t, hr, hc⟩, _, e => by
    have h1 := hm d List.mem_cons_self
    rw [hr] at e
    simp only [List.nil_append, List.cons_append, List.cons.injEq] at e
    omega
  | d :: l, [], r, s, hl, _, _, ⟨c, t, hr, hc⟩, e => by
    have h1 := hl d List.mem_cons_self
    rw [hr] at e
    simp only [List.nil_append, List.cons_append, List.cons.injEq] at e
    omega
  | d :: l, d' :: m, r, s, hl, hm, hr, hs, e => by
    simp only [List.cons_append, List.cons.injEq] at e
    obtain ⟨rfl, e⟩ := e
    obtain ⟨rfl, e2⟩ := digs_split (fun c hc => hl c (List.mem_cons_of_mem _ hc)) (fun c hc => hm c (List.mem_cons_of_mem _ hc)) hr hs e
    exact ⟨rfl, e2⟩
theorem int_text (i : Int) : tl (Str.ofString (toString i)) = if i < 0 then 45 :: numL i.natAbs else numL i.natAbs := by
  by_cases h : i < 0
  · rw [if_pos h, toString_neg h, tl_ofString, String.toList_append, List.map_append]
    have e : (0 - i) = ((i.natAbs : Nat) : Int) := by omega
    rw [e]
    have := tl_num i.natAbs
    rw [tl_ofString] at this
    rw [this]
    rfl
  · rw [if_neg h]
    obtain ⟨n, rfl⟩ := Int.eq_ofNat_of_zero_le (Int.not_lt.mp h)
    exact tl_num n
theorem int_split {i j : Int} {r s : List Nat} (hr : Sep r) (hs : Sep s) (e : tl (Str.ofString (toString i)) ++ r = tl (Str.ofString (toString j)) ++ s) : i = j ∧ r = s := by
  rw [int_text, int_text] at e
  have dg : ∀ n x t, x = 45 ∨ x = 44 ∨ x = 93 ∨ x = 41 → numL n = x :: t → False := fun n x t hx q => by
    have := numL_digits n x (by rw [q]; exact List.mem_cons_self)
    omega
  by_cases hi : i < 0 <;> by_cases hj : j < 0
  · rw [if_pos hi, if_pos hj] at e
    simp only [List.cons_append, List.cons.injEq, true_and] at e
    obtain ⟨e1, e2⟩ := digs_split (numL_digits _) (numL_digits _) hr hs e
    have := numL_inj e1
    exact ⟨by omega, e2⟩
  · rw [if_pos hi, if_neg hj] at e
    obtain ⟨x, t, q⟩ := List.exists_cons_of_ne_nil (numL_ne j.natAbs)
    rw [q] at e
    simp only [List.cons_append, List.cons.injEq] at e
    exact (dg j.natAbs x t (.inl e.1.symm) q).elim
  · rw [if_neg hi, if_pos hj] at e
    obtain ⟨x, t, q⟩ := List.exists_cons_of_ne_nil (numL_ne i.natAbs)
    rw [q] at e
    simp only [List.cons_append, List.cons.injEq] at e
    exact (dg i.natAbs x t (.inl e.1) q).elim
  · rw [if_neg hi, if_neg hj] at e
    obtain ⟨e1, e2⟩ := digs_split (numL_digits _) (numL_digits _) hr hs e
    have := numL_inj e1
    exact ⟨by omega, e2⟩
/-- the first sign tells the kind -/
def kindOf : PyData → Nat
  | .int _ => 1
  | .str _ => 2
  | .list _ => 3
  | .tuple _ => 4
  | _ => 0
def signK (c : Nat) : Nat := if c = 91 then 3 else if c = 40 then 4 else if c = 39 then 2 else if c = 45 ∨ (48 ≤ c ∧ c ≤ 57) then 1 else 0
theorem textFrom_tl : ∀ (ts : List Str) (k : Nat) (acc : Str), tl (textFrom k acc ts) = tl acc ++ (if k > 0 then ts.flatMap fun t => 44 :: 32 :: tl t else joinL [44, 32] (ts.map tl))
  | [], k, acc => by
    unfold textFrom
    split <;> simp [joinL]
  | t :: ts, k, acc => by
    unfold textFrom
    rw [textFrom_tl ts (k + 1), if_pos (Nat.succ_pos k), tl_append, tl_append]
    by_cases h : k > 0
    · rw [if_pos h, if_pos h, List.flatMap_cons]
      have e : tl (Str.ofString ", ") = [44, 32] := by decide +kernel
      rw [e]
      simp
    · rw [if_neg h, if_neg h]
      have e : tl (Str.ofString "") = [] := by decide +kernel
      rw [e]
      clear h e
      have aux : ∀ (ts : List Str) (t : Str), tl t ++ ts.flatMap (fun t => 44 :: 32 :: tl t) = joinL [44, 32] ((t :: ts).map tl) := by
        intro ts
        induction ts with
        | nil => intro t; simp [joinL]
        | cons u us ih =>
          intro t
          have := ih u
          simp only [List.flatMap_cons, List.map_cons, joinL]
          simp only [List.map_cons] at this
          rw [← this]
          simp
      rw [← aux]
      simp
/-- what stands behind an item -/
def restL (e : Nat) (r : List Nat) : List PyData → List Nat
  | [] => e :: r
  | p :: ps => 44 :: 32 :: (pT p ++ restL e r ps)
theorem joinL_rest (e : Nat) (r : List Nat) : ∀ (p : PyData) (ps : List PyData), joinL [44, 32] ((p :: ps).map pT) ++ e :: r = pT p ++ restL e r ps
  | p, [] => rfl
  | p, q :: ps => by
    have := joinL_rest e r q ps
    simp only [List.map_cons, joinL, restL] at this ⊢
    rw [← this]
    simp
theorem shownAll_map : ∀ xs : List PyData, PyData.shownAll xs = xs.map PyData.shown
  | [] => rfl
  | x :: xs => by unfold PyData.shownAll; rw [shownAll_map xs]; rfl
theorem list_text (xs : List PyData) : pT (.list xs) = 91 :: (joinL [44, 32] (xs.map pT) ++ [93]) := by
  show tl (listText (PyData.shownAll xs)) = _
  unfold listText
  rw [tl_append, textFrom_tl, if_neg (by decide), shownAll_map, List.map_map]
  have e1 : tl (Str.ofString "[") = [91] := by decide +kernel
  have e2 : tl (Str.ofString "]") = [93] := by decide +kernel
  rw [e1, e2]
  rfl
theorem tuple_text {xs : List PyData} (h : xs.length ≠ 1) : pT (.tuple xs) = 40 :: (joinL [44, 32] (xs.map pT) ++ [41]) := by
  show tl (tupleText (PyData.shownAll xs)) = _
  unfold tupleText
  rw [tl_append, tl_append, tl_join, shownAll_map, List.map_map, List.length_map]
  have e0 : (xs.length == 1) = false := by simpa using h
  rw [e0]
  have e1 : tl ("(" : Str) = [40] := by decide +kernel
  have e2 : tl (Str.ofString (if false = true then ",)" else ")")) = [41] := by decide +kernel
  have e3 : tl (", " : Str) = [44, 32] := by decide +kernel
  rw [e1, e2, e3]
  rfl
theorem text_head {p : PyData} (h : PyU p) : ∃ c t, pT p = c :: t ∧ signK c = kindOf p ∧ c ≠ 44 ∧ c ≠ 93 ∧ c ≠ 41 := by
  cases h with
  | int i =>
    show ∃ c t, tl (Str.ofString (toString i)) = c :: t ∧ _
    rw [int_text]
    split
    · exact ⟨_, _, rfl, rfl, by decide, by decide, by decide⟩
    · obtain ⟨x, t, q⟩ := List.exists_cons_of_ne_nil (numL_ne i.natAbs)
      have := numL_digits i.natAbs x (by rw [q]; exact List.mem_cons_self)
      refine ⟨x, t, q, ?_, by omega, by omega, by omega⟩
      unfold signK kindOf
      rw [if_neg (by omega), if_neg (by omega), if_neg (by omega), if_pos (by omega)]
  | str h =>
    obtain ⟨c, rfl, e⟩ := ltr_text h
    exact ⟨39, _, e, rfl, by decide, by decide, by decide⟩
  | list h => exact ⟨_, _, list_text _, rfl, by decide, by decide, by decide⟩
  | tuple h _ => exact ⟨_, _, tuple_text h, rfl, by decide, by decide, by decide⟩
def UqP (x : PyData) : Prop := ∀ q, PyU q → ∀ r s, Sep r → Sep s → pT x ++ r = pT q ++ s → x = q ∧ r = s
theorem restL_sep {e : Nat} (he : e = 93 ∨ e = 41) {r : List Nat} : ∀ ps : List PyData, Sep (restL e r ps)
  | [] => ⟨e, r, rfl, .inr he⟩
  | _ :: _ => ⟨44, _, rfl, .inl rfl⟩
theorem rest_uniq {e : Nat} (he : e = 93 ∨ e = 41) {r s : List Nat} : ∀ xs ys : List PyData, (∀ x, x ∈ xs → UqP x) → (∀ y, y ∈ ys → PyU y) → restL e r xs = restL e s ys → xs = ys ∧ r = s
  | [], [], _, _, h => by
    simp only [restL, List.cons.injEq, true_and] at h
    exact ⟨rfl, h⟩
  | [], _ :: _, _, _, h => by
    simp only [restL, List.cons.injEq] at h
    omega
  | _ :: _, [], _, _, h => by
    simp only [restL, List.cons.injEq] at h
    omega
  | x :: xs, y :: ys, hx, hy, h => by
    simp only [restL, List.cons.injEq, true_and] at h
    obtain ⟨rfl, h2⟩ := hx x List.mem_cons_self y (hy y List.mem_cons_self) _ _ (restL_sep he xs) (restL_sep he ys) h
    obtain ⟨rfl, h3⟩ := rest_uniq he xs ys (fun z hz => hx z (List.mem_cons_of_mem _ hz)) (fun z hz => hy z (List.mem_cons_of_mem _ hz)) h2
    exact ⟨rfl, h3⟩
theorem items_uniq {e : Nat} (he : e = 93 ∨ e = 41) {r s : List Nat} : ∀ xs ys : List PyData, (∀ x, x ∈ xs → UqP x ∧ PyU x) → (∀ y, y ∈ ys → PyU y) → joinL [44, 32] (xs.map pT) ++ e :: r = joinL [44, 32] (ys.map pT) ++ e :: s → xs = ys ∧ r = s
  | [], [], _, _, h => by
    simp only [List.map_nil, joinL, List.nil_append, List.cons.injEq, true_and] at h
    exact ⟨rfl, h⟩
  | [], y :: ys, _, hy, h => by
    rw [joinL_rest] at h
    obtain ⟨c, t, q, _, h1, h2, h3⟩ := text_head (hy y List.mem_cons_self)
    rw [q] at h
    simp only [List.map_nil, joinL, List.nil_append, List.cons_append, List.cons.injEq] at h
    omega
  | x :: xs, [], hx, _, h => by
    rw [joinL_rest] at h
    obtain ⟨c, t, q, _, h1, h2, h3⟩ := text_head (hx x List.mem_cons_self).2
    rw [q] at h
    simp only [List.map_nil, joinL, List.nil_append, List.cons_append, List.cons.injEq] at h
    omega
  | x :: xs, y :: ys, hx, hy, h => by
    rw [joinL_rest, joinL_rest] at h
    obtain ⟨rfl, h2⟩ := (hx x List.mem_cons_self).1 y (hy y List.mem_cons_self) _ _ (restL_sep he xs) (restL_sep he ys) h
    obtain ⟨rfl, h3⟩ := rest_uniq he xs ys (fun z hz => (hx z (List.mem_cons_of_mem _ hz)).1) (fun z hz => hy z (List.mem_cons_of_mem _ hz)) h2
    exact ⟨rfl, h3⟩
theorem uq_of {p : PyData} (h : PyU p) : UqP p := by
  induction h with
  | int i =>
    intro q hq r s hr hs e
    obtain ⟨c, t, g1, g2, _⟩ := text_head (PyU.int i)
    obtain ⟨c', t', g1', g2', _⟩ := text_head hq
    have ec : c = c' := by
      rw [g1, g1'] at e
      simp only [List.cons_append, List.cons.injEq] at e
      exact e.1
    have ek : kindOf q = 1 := by rw [← g2', ← ec, g2]; rfl
    cases hq with
    | int j =>
      obtain ⟨rfl, e2⟩ := int_split hr hs e
      exact ⟨rfl, e2⟩
    | str _ => cases ek
    | list _ => cases ek
    | tuple _ _ => cases ek
  | @str x hx =>
    intro q hq r s hr hs e
    obtain ⟨c, t, g1, g2, _⟩ := text_head (PyU.str hx)
    obtain ⟨c', t', g1', g2', _⟩ := text_head hq
    have ec : c = c' := by
      rw [g1, g1'] at e
      simp only [List.cons_append, List.cons.injEq] at e
      exact e.1
    have ek : kindOf q = 2 := by rw [← g2', ← ec, g2]; rfl
    cases hq with
    | int _ => cases ek
    | @str y hy =>
      obtain ⟨d, rfl, e1⟩ := ltr_text hx
      obtain ⟨d', rfl, e1'⟩ := ltr_text hy
      have e9 : tl (reprText ⟨#[d]⟩) ++ r = tl (reprText ⟨#[d']⟩) ++ s := e
      rw [e1, e1'] at e9
      simp only [List.cons_append, List.nil_append, List.cons.injEq, true_and] at e9
      obtain ⟨e5, e6⟩ := e9
      exact ⟨by rw [e5], e6⟩
    | list _ => cases ek
    | tuple _ _ => cases ek
  | @list xs hx ih =>
    intro q hq r s hr hs e
    obtain ⟨c, t, g1, g2, _⟩ := text_head (PyU.list hx)
    obtain ⟨c', t', g1', g2', _⟩ := text_head hq
    have ec : c = c' := by
      rw [g1, g1'] at e
      simp only [List.cons_append, List.cons.injEq] at e
      exact e.1
    have ek : kindOf q = 3 := by rw [← g2', ← ec, g2]; rfl
    cases hq with
    | int _ => cases ek
    | str _ => cases ek
    | @list ys hy =>
      rw [list_text, list_text] at e
      simp only [List.cons_append, List.cons.injEq, true_and, List.append_assoc, List.nil_append] at e
      obtain ⟨rfl, e2⟩ := items_uniq (.inl rfl) xs ys (fun x h => ⟨ih x h, hx x h⟩) hy e
      exact ⟨rfl, e2⟩
    | tuple _ _ => cases ek
  | @tuple xs hn hx ih =>
    intro q hq r s hr hs e
    obtain ⟨c, t, g1, g2, _⟩ := text_head (PyU.tuple hn hx)
    obtain ⟨c', t', g1', g2', _⟩ := text_head hq
    have ec : c = c' := by
      rw [g1, g1'] at e
      simp only [List.cons_append, List.cons.injEq] at e
      exact e.1
    have ek : kindOf q = 4 := by rw [← g2', ← ec, g2]; rfl
    cases hq with
    | int _ => cases ek
    | str _ => cases ek
    | list _ => cases ek
    | @tuple ys hn' hy =>
      rw [tuple_text hn, tuple_text hn'] at e
      simp only [List.cons_append, List.cons.injEq, true_and, List.append_assoc, List.nil_append] at e
      obtain ⟨rfl, e2⟩ := items_uniq (.inr rfl) xs ys (fun x h => ⟨ih x h, hx x h⟩) hy e
      exact ⟨rfl, e2⟩
theorem shown_inj {p q : PyData} (hp : PyU p) (hq : PyU q) (h : p.shown = q.shown) : p = q := by
  have e : pT p ++ [44] = pT q ++ [44] := by unfold pT; rw [h]
  exact (uq_of hp q hq _ _ ⟨44, [], rfl, .inl rfl⟩ ⟨44, [], rfl, .inl rfl⟩ e).1

/-- kinds' texts -/
def gForm (f : Form) : PyData := .list (f.map fun c => .tuple [.int c.1, .str c.2])
def gLine (x : Line) : PyData := .tuple [.str x.1, .int x.2.1, .list (x.2.2.map fun r => .list (r.map gForm))]
def gKind (b : Nat) (ls : List Line) : PyData := .tuple [.int (b : Nat), .list (ls.map gLine)]
theorem py_kind (b : Nat) (ls : List Line) : (kindD b ls).py = some (gKind b ls) := by
  have := (@EncE.py _ (@instDecidableEqList _ decLine) _ _ _ _ enc_linesL ls)
  unfold kindD
  show (match D.pys [D.int (b : Nat), .lst (ls.map lineL)] with | some ys => some (PyData.tuple ys) | none => none) = _
  unfold D.pys D.pys D.pys
  have e : (D.lst (ls.map lineL)).py = some (.list (ls.map gLine)) := this
  rw [e]
  rfl
theorem gKind_inj {b b' : Nat} {ls ls' : List Line} (h : gKind b ls = gKind b' ls') : b = b' ∧ ls = ls' := by
  unfold gKind at h
  simp only [PyData.tuple.injEq, List.cons.injEq, PyData.int.injEq, and_true] at h
  refine ⟨by omega, ?_⟩
  have := (@EncE.eq _ (@instDecidableEqList _ decLine) _ _ _ _ enc_linesL ls ls')
  have h2 : PyData.eqv (.list (ls.map gLine)) (.list (ls'.map gLine)) = @decide (ls = ls') (@instDecidableEqList _ decLine ls ls') := this
  rw [h.2] at h2
  have h3 := (@EncE.eq _ (@instDecidableEqList _ decLine) _ _ _ _ enc_linesL ls' ls')
  have h4 : PyData.eqv (.list (ls'.map gLine)) (.list (ls'.map gLine)) = @decide (ls' = ls') (@instDecidableEqList _ decLine ls' ls') := h3
  rw [h4] at h2
  have h5 : @decide (ls' = ls') (@instDecidableEqList _ decLine ls' ls') = true := @decide_eq_true _ (@instDecidableEqList _ decLine ls' ls') rfl
  rw [h5] at h2
  exact @of_decide_eq_true _ (@instDecidableEqList _ decLine ls ls') h2.symm
theorem pyu_kind {b : Nat} {ls : List Line} (h : BookIn b ls) : PyU (gKind b ls) := by
  have hn : ∀ x, x ∈ nmsOf ls → PyU (.str x) := fun x hx => .str (isNm_ltr (h.nam x hx))
  refine .tuple (by simp) fun x hx => ?_
  rcases List.mem_cons.mp hx with rfl | hx
  · exact .int _
  rw [List.mem_singleton.mp hx]
  refine .list fun y hy => ?_
  obtain ⟨l, hl, rfl⟩ := List.mem_map.mp hy
  refine .tuple (by simp) fun z hz => ?_
  rcases List.mem_cons.mp hz with rfl | hz
  · exact hn _ (List.mem_map_of_mem hl)
  rcases List.mem_cons.mp hz with rfl | hz
  · exact .int _
  rw [List.mem_singleton.mp hz]
  refine .list fun u hu => ?_
  obtain ⟨r, hr, rfl⟩ := List.mem_map.mp hu
  refine .list fun v hv => ?_
  obtain ⟨f, hf, rfl⟩ := List.mem_map.mp hv
  refine .list fun w hw => ?_
  obtain ⟨c, hc, rfl⟩ := List.mem_map.mp hw
  refine .tuple (by simp) fun k hk => ?_
  rcases List.mem_cons.mp hk with rfl | hk
  · exact .int _
  rw [List.mem_singleton.mp hk]
  exact hn _ (h.ok.fm l hl r hr f hf c hc)
theorem shown_kind {b b' : Nat} {ls ls' : List Line} (h : BookIn b ls) (h' : BookIn b' ls') : (decide (shownD (kindD b ls) = shownD (kindD b' ls'))) = (decide (b = b') && eqLs ls ls') := by
  unfold shownD
  rw [py_kind, py_kind]
  by_cases e : b = b' ∧ ls = ls'
  · obtain ⟨rfl, rfl⟩ := e
    rw [decide_eq_true rfl, decide_eq_true rfl, eqLs_self]
    rfl
  · rw [decide_eq_false fun q => e (gKind_inj (shown_inj (pyu_kind h) (pyu_kind h') q))]
    by_cases q : b = b'
    · rw [eqLs_not fun z => e ⟨q, z⟩, Bool.and_false]
    · rw [decide_eq_false q, Bool.false_and]
theorem fEq_kind (neg : Bool) {b b' : Nat} {ls ls' : List Line} (h : BookIn b ls) (h' : BookIn b' ls') (Q : RV → Prop) : fEq neg (.str (shownD (kindD b ls))) (.str (shownD (kindD b' ls'))) Q = Q (.v (.bl (if neg then !(decide (b = b') && eqLs ls ls') else (decide (b = b') && eqLs ls ls')))) := by
  rw [← shown_kind h h']
  rfl
end BB

namespace BB
open PySem PySem.Spec PyProof.Rows L2 TL
/-! ### a kind's text is short; lists of lists of texts, lists of truths -/
theorem shw_lst' {k n m : Nat} {xs : List D} (h : ∀ x, x ∈ xs → Shw k n x) (hl : xs.length ≤ m) : Shw (k + 1) (m * (n + 2) + 8) (.lst xs) :=
  (Shw.lst h).mono (Nat.le_refl _) (Nat.add_le_add_right (Nat.mul_le_mul_right _ hl) _)
theorem shw_tup' {k n m : Nat} {xs : List D} (h : ∀ x, x ∈ xs → Shw k n x) (hl : xs.length ≤ m) : Shw (k + 1) (m * (n + 2) + 8) (.tup xs) :=
  (Shw.tup h).mono (Nat.le_refl _) (Nat.add_le_add_right (Nat.mul_le_mul_right _ hl) _)
theorem shw_ltr {x : Str} (h : Ltr x) : Shw 0 18 (.str x) := by
  obtain ⟨c, rfl, h1, h2⟩ := h
  refine (Shw.str fun d hd => ?_).mono (Nat.le_refl _) (Nat.le_refl _)
  have : d = c := List.mem_singleton.mp hd
  omega
theorem shw_small {i : Int} (h : i.natAbs < 1024) : Shw 0 18 (.int i) := Shw.int (b := 10) h (by decide)
theorem MateOk.shown {b : Nat} {ls : List Line} (h : MateOk b ls) : Shown (kindD b ls) := by
  have hn : ∀ x, x ∈ nmsOf ls → Shw 0 18 (.str x) := fun x hx => shw_ltr (isNm_ltr (h.bi.nam x hx))
  have hb := h.bi.ok.base
  refine shown_of (n := 2 * (291208 + 2) + 8) (k := 7) ?_ (by decide) (by decide)
  refine shw_tup' (fun x hx => ?_) (Nat.le_refl _)
  rcases List.mem_cons.mp hx with rfl | hx
  · exact (shw_small (by omega)).mono (by omega) (by omega)
  rw [List.mem_singleton.mp hx]
  refine shw_lst' (m := 26) (n := 11198) (fun y hy => ?_) (by rw [List.length_map]; exact h.bi.ok.few)
  obtain ⟨l, hl, rfl⟩ := List.mem_map.mp hy
  obtain ⟨s1, s2⟩ := h.bi.ok.sq l hl
  refine shw_tup' (m := 3) (n := 3728) (fun z hz => ?_) (Nat.le_refl _)
  rcases List.mem_cons.mp hz with rfl | hz
  · exact (hn _ (List.mem_map_of_mem hl)).mono (by omega) (by omega)
  rcases List.mem_cons.mp hz with rfl | hz
  · have := h.st l hl
    exact (shw_small (by omega)).mono (by omega) (by omega)
  rw [List.mem_singleton.mp hz]
  refine shw_lst' (m := 3) (n := 1238) (fun u hu => ?_) (by rw [List.length_map]; omega)
  obtain ⟨r, hr, rfl⟩ := List.mem_map.mp hu
  refine shw_lst' (m := 3) (n := 408) (fun v hv => ?_) (by rw [List.length_map, s2 r hr]; omega)
  obtain ⟨f, hf, rfl⟩ := List.mem_map.mp hv
  obtain ⟨f1, f2⟩ := h.fm l hl r hr f hf
  refine shw_lst' (m := 8) (n := 48) (fun w hw => ?_) (by rw [List.length_map]; exact f1)
  obtain ⟨c, hc, rfl⟩ := List.mem_map.mp hw
  refine shw_tup' (m := 2) (n := 18) (fun k hk => ?_) (Nat.le_refl _)
  rcases List.mem_cons.mp hk with rfl | hk
  · have := f2 c hc
    exact shw_small (by omega)
  rw [List.mem_singleton.mp hk]
  exact hn _ (h.bi.ok.fm l hl r hr f hf c hc)
theorem enc_bl : EncE (fun _ : Bool => True) 0 D.bl PyData.bool where
  py _ := rfl
  lay _ _ := by simp only [PyData.canLay0]
  dep _ := by simp only [PyData.depth, Nat.le_refl]
  eq x y := by
    simp only [PyData.eqv]
    cases x <;> cases y <;> rfl
theorem fEq_lb (neg : Bool) (xs ys : List Bool) (Q : RV → Prop) : fEq neg (.lst (xs.map D.bl)) (.lst (ys.map D.bl)) Q = Q (.v (.bl (if neg then !(decide (xs = ys)) else decide (xs = ys)))) :=
  (enc_lst enc_bl).fEq (by decide) (fun _ _ => .inl rfl) (fun _ _ => trivial) (fun _ _ => trivial) neg Q
def strsD (xs : List Str) : D := .lst (xs.map D.str)
theorem fEq_lls (neg : Bool) {xs ys : List (List Str)} (hx : ∀ l, l ∈ xs → ∀ x, x ∈ l → OkS x) (hy : ∀ l, l ∈ ys → ∀ x, x ∈ l → OkS x) (Q : RV → Prop) : fEq neg (.lst (xs.map strsD)) (.lst (ys.map strsD)) Q = Q (.v (.bl (if neg then !(decide (xs = ys)) else decide (xs = ys)))) :=
  (enc_lst (enc_lst enc_str)).fEq (by decide) (fun _ _ => .inl rfl) hx hy neg Q
theorem dec_nat (x y : Nat) : decide ((x : Int) = (y : Int)) = decide (x = y) := by
  by_cases h : x = y
  · rw [decide_eq_true h, decide_eq_true (by omega)]
  · rw [decide_eq_false h, decide_eq_false (by omega)]
theorem dec_comm (x y : Nat) : decide (x = y) = decide (y = x) := by
  by_cases h : x = y
  · rw [decide_eq_true h, decide_eq_true h.symm]
  · rw [decide_eq_false h, decide_eq_false (Ne.symm h)]
theorem eqLs_comm (x y : List Line) : eqLs x y = eqLs y x := by
  by_cases h : x = y
  · rw [h]
  · rw [eqLs_not h, eqLs_not (Ne.symm h)]
end BB

namespace BB
open PySem PySem.Spec PyProof.Rows L2
section
variable {d : D} {ρ : DE} {i : Nat} {E : ME} {s : SV} {k : RV → Prop} {mask : List Bool} {kq : RV → DE → Prop}
theorem retR_t : retR (.t s) ρ E = E.rt (.t s) ρ := rfl
theorem ret_t : retM mask (.t s) ρ kq = kq (.t s) (keepM mask ρ) := rfl
theorem bind_t {kd : DE → Prop} : bindR i (.t s) ρ kd = kd (ρ.set i s) := rfl
theorem res_t : okRes (.t s) k = k (.t s) := rfl
end
section
variable {X : Cx} {K : PySem.W.Frag} {F F' G G' G1 H H' : Hp} {fx : List (Nat × Addr)} {W : WX} {ρ ρ' ρ1 ρ2 : DE} {σ σ' : L2.St} {pos pos' : Pos} {e o a b : Expr} {es : List Expr} {m mo : M} {ml : ML} {v v' : V} {d : D} {s s' : SV} {ms : MS}
/-! ### a slot's cells stand aside for a while -/
theorem Rep.putT {j : Nat} (R : Rep K F G H fx ρ σ) (h : RvOk K F G H ρ σ (.t s) v) (hv : σ[j]? = some (some v)) : Rep K F G H fx (ρ.set j s) σ := by
  obtain ⟨h1, h2⟩ := h
  have far : ∀ i b, Owns (ρ.set j s) σ i b → (i = j ∧ s.at (some (some v)) b) ∨ Owns ρ σ i b := fun i b ⟨x, q, z⟩ => by
    rcases set_get? q with ⟨rfl, rfl⟩ | ⟨hj, q⟩
    · exact .inl ⟨rfl, by rw [hv] at z; exact z⟩
    · exact .inr ⟨x, q, z⟩
  refine ⟨R.fh, R.gh, R.fg, by rw [List.length_set]; exact R.len, fun i x q => ?_, fun i l b q1 q2 => ?_, R.fix⟩
  · rcases set_get? q with ⟨rfl, rfl⟩ | ⟨hj, q⟩
    · rw [hv]; exact h1
    · exact R.sl i x q
  · rcases far i b q1 with ⟨rfl, z1⟩ | z1
    · rcases far l b q2 with ⟨rfl, _⟩ | z2
      · rfl
      · exact absurd z2 (h2 b z1 l)
    · rcases far l b q2 with ⟨rfl, z2⟩ | z2
      · exact absurd z1 (h2 b z2 i)
      · exact R.nd i l b z1 z2
theorem RvOk.putT {j : Nat} {r : RV} (k : RvOk K F G1 H ρ σ r v') (sg : Same G G1) (hG : ∀ b, s.at (some (some v)) b → ∃ o, G1 b = some o) (hv : σ[j]? = some (some v)) : RvOk K F G H (ρ.set j s) σ r v' := by
  have far : ∀ i b, Owns (ρ.set j s) σ i b → (∃ o, G1 b = some o) ∨ Owns ρ σ i b := fun i b ⟨x, q, z⟩ => by
    rcases set_get? q with ⟨rfl, rfl⟩ | ⟨hj, q⟩
    · exact .inl (hG b (by rw [hv] at z; exact z))
    · exact .inr ⟨x, q, z⟩
  cases r with
  | v d => exact k
  | sl i => exact k
  | gr j a => exact k
  | o x =>
    obtain ⟨h0, a, o, h1, h2, h3, h4, h5, h6⟩ := k
    refine ⟨h0, a, o, h1, h2, h3, sg.free h4, h5, fun i q => ?_⟩
    rcases far i a q with ⟨u, z⟩ | z
    · rw [h4] at z; cases z
    · exact h6 i z
  | t x =>
    obtain ⟨h0, h1⟩ := k
    refine ⟨h0.move (Same.refl F) fun a ha => ?_, fun a ha i q => ?_⟩
    · obtain ⟨o, k2, k3, k4, _⟩ := h0.cell ha
      exact ⟨k3, sg.free k4, rfl⟩
    · obtain ⟨o, k2, k3, k4, _⟩ := h0.cell ha
      rcases far i a q with ⟨u, z⟩ | z
      · rw [k4] at z; cases z
      · exact h1 a ha i z
/-- a slot's tree is taken out -/
theorem Rep.takeT {j : Nat} (R : Rep K F G H fx ρ σ) (e : ρ[j]? = some s) (hv : σ[j]? = some (some v)) : Rep K F G H fx (ρ.set j .no) σ ∧ RvOk K F G H (ρ.set j .no) σ (.t s) v := by
  have hs := R.sl j _ e
  rw [hv] at hs
  refine ⟨R.setNo j, hs, fun a ha i ⟨x, z1, z3⟩ => ?_⟩
  rcases set_get? z1 with ⟨rfl, rfl⟩ | ⟨hj, z1⟩
  · exact z3.elim
  · exact hj (R.nd i j a ⟨x, z1, z3⟩ ⟨_, e, by rw [hv]; exact ha⟩)
def ME.back (j : Nat) (s : SV) (E : ME) : ME := ⟨fun ρ => E.nx (ρ.set j s), fun r ρ => E.rt r (ρ.set j s), fun ρ => E.bk (ρ.set j s), fun ρ => E.ct (ρ.set j s), fun c d ρ => E.ex c d (ρ.set j s)⟩
theorem fx_in {j : Nat} (hj : fxOk fx j = false) : ∃ a, (j, a) ∈ fx := by
  unfold fxOk at hj
  rw [List.all_eq_false] at hj
  obtain ⟨p, hp, h⟩ := hj
  have : p.1 = j := by simpa using h
  exact ⟨p.2, by rw [← this]; exact hp⟩
theorem MEOk.back {j : Nat} {E0 : ME} {DD : Ends} (hj : fxOk fx j = false) (R : Rep K F G H fx ρ σ) (kT : RvOk K F G H ρ σ (.t s) v) (hv : σ[j]? = some (some v)) (k : MEOk K G fx W F E0 DD) : MEOk K (gx (.t s) v G H) fx W F (E0.back j s) DD := by
  obtain ⟨a0, ha0⟩ := fx_in hj
  have fixed : ∀ {F' G' H' : Hp} {ρ' : DE} {σ' : L2.St}, Rep K F' G' H' fx ρ' σ' → σ'[j]? = some (some v) := fun R' => by
    have h1 := R'.fix _ ha0
    have h2 := R.fix _ ha0
    have h1 : _ = some (some (V.ref a0)) := h1
    have h2 : σ[j]? = some (some (V.ref a0)) := h2
    rw [hv] at h2
    rw [h1, h2]
  have sg : Same G (gx (.t s) v G H) := (R.lendT kT).1
  have go : ∀ {F' H' : Hp} {ρ' : DE} {σ' : L2.St}, Same F F' → Rep K F' (gx (.t s) v G H) H' fx ρ' σ' → Rep K F' G H' fx (ρ'.set j s) σ' := fun sm R' => by
    obtain ⟨k1, _⟩ := kT.backT sm R'
    exact (R'.less sg).putT k1 (fixed R')
  have hG : ∀ b, s.at (some (some v)) b → ∃ o, (gx (.t s) v G H) b = some o := fun b hb => by
    obtain ⟨o, h1, _⟩ := kT.1.cell hb
    exact ⟨o, by rw [gx_t_at hb]; exact h1⟩
  exact ⟨fun ρ' z F' H' σ' sm R' => k.nx _ z F' H' σ' sm (go sm R'), fun r ρ' z F' H' σ' v' sm R' kv => k.rt r _ z F' H' σ' v' sm (go sm R') (kv.putT sg hG (fixed R')),
    fun ρ' z F' H' σ' sm R' => k.bk _ z F' H' σ' sm (go sm R'), fun ρ' z F' H' σ' sm R' => k.ct _ z F' H' σ' sm (go sm R'),
    fun σ' c d ρ' z F' H' v' dx sm R' hd dd hf hg => k.ex σ' c d _ z F' H' v' dx sm (go sm R') hd dd hf (sg.free hg)⟩
/-! ### for over a list within an own slot, which stands aside -/
def sForG (j : Nat) (m : M) (g : MG) (mb : MS) : MS := fun ρ E => m ρ (fun r ρ1 => match r with
  | .gr i a => i = j ∧ match ρ1[j]? with
    | some (.tr s gg) => (match gg.lookup a with
      | some xs => loopD g mb xs (ρ1.set j .no) (E.back j (.tr s gg))
      | none => False)
    | _ => False
  | _ => False) E.ex
theorem ss_forG {tg iter : Expr} {g : MG} {body : List Stmt} {ts : List Nat} (j : Nat) (hj : fxOk fx j = false) (hp : PassesOwn (model X.prog X.w) X.A X.env X.xe) (hc : X.calm = true) (hi : ES X fx W iter m) (hg : EG X fx ts tg g) (hb : SB X fx W body ms)
    (hs : ∀ x : Value, foldedSetIterable iter X.env x = pure x := by intro _; rfl) : SS X fx W (.For tg iter body [] pos) (sForG j m g ms) := by
  refine ps_imp (ps_for hp hc (pi_any hi) hg hb hs) fun D σ H ⟨F, G, ρ, E0, R, h, k⟩ => ⟨F, G, ρ, _, _, R, h, fun r ρ1 h1 F1 H1 v1 s1 R1 k1 => ?_, k.ex σ⟩
  cases r with
  | v _ => exact h1.elim
  | sl _ => exact h1.elim
  | o _ => exact h1.elim
  | t _ => exact h1.elim
  | gr i a =>
    obtain ⟨rfl, h1⟩ := h1
    have k1 : v1 = .ref a := k1
    subst k1
    cases ej : ρ1[i]? with
    | none => rw [ej] at h1; exact h1.elim
    | some sj =>
      rw [ej] at h1
      cases sj with
      | no => exact h1.elim
      | fz _ => exact h1.elim
      | ow _ => exact h1.elim
      | oi _ _ => exact h1.elim
      | od _ => exact h1.elim
      | tr s gg =>
        have h1 : (match gg.lookup a with
          | some xs => loopD g ms xs (ρ1.set i .no) (E0.back i (.tr s gg))
          | none => False) := h1
        cases el : gg.lookup a with
        | none => rw [el] at h1; exact h1.elim
        | some xs =>
          rw [el] at h1
          have h1 : loopD g ms xs (ρ1.set i .no) (E0.back i (.tr s gg)) := h1
          obtain ⟨a0, ha0⟩ := fx_in hj
          have hv : σ[i]? = some (some (V.ref a0)) := R1.fix _ ha0
          obtain ⟨R2, kT⟩ := R1.takeT ej hv
          have hm : a ∈ gg.map (·.1) := List.mem_map_of_mem (f := (·.1)) (lookup_mem el)
          have hat : (SV.tr s gg).at (some (some (V.ref a0))) a := .inr hm
          obtain ⟨vs, c1, c2, c3, c4⟩ := kT.1.2.1.2 _ (lookup_mem el)
          have c1 : H1 a = some (.lst vs) := c1
          have kb := (k.mono s1).back hj R2 kT hv
          obtain ⟨sg, R3⟩ := R2.lendT kT
          have g1 : gx (.t (.tr s gg)) (V.ref a0) G H1 a = some (.lst vs) := by rw [gx_t_at hat]; exact c1
          generalize gx (.t (.tr s gg)) (V.ref a0) G H1 = G1 at kb sg R3 g1
          have it : ItD X.K F1 G1 (Itl X.K a) xs := {
            go := fun i H _ s hi => by
              obtain ⟨d, hd⟩ : ∃ d, xs[i]? = some d := ⟨xs[i], by simp [hi]⟩
              obtain ⟨v, hv, _⟩ := c4.get hd
              exact ⟨vs, v, SqL.of (s _ _ g1), hv⟩
            stop := fun H _ s => ⟨vs, SqL.of (s _ _ g1), by rw [c4.length]; exact Nat.le_refl _⟩
            yld := fun i H x H' _ s hi y => by
              obtain ⟨rfl, hx⟩ := y
              have hv := hx vs (SqL.of (s _ _ g1))
              obtain ⟨d, hd, dd⟩ := c4.getv hv
              exact ⟨d, hd, .inl ⟨rfl, dd⟩⟩ }
          refine .inl ⟨a, rfl, ⟨_, SqL.of c1⟩, ?_⟩
          clear R h R1 k
          refine ⟨fun i m σ H => m = xs.length - i ∧ i ≤ xs.length ∧ ∃ F2 ρ2, Same F1 F2 ∧ Rep X.K F2 G1 H fx ρ2 σ ∧ loopD g ms (xs.drop i) ρ2 _, ⟨_, rfl, Nat.zero_le _, F1, _, Same.refl F1, R3, h1⟩, ?_⟩
          rintro i m σ' H' ⟨rfl, hi, F2, ρ2, s2, R2, h2⟩
          have it2 := it.mono s2
          by_cases hlt : i < xs.length
          · refine .inr ⟨it2.go i H' R2.fh R2.gh hlt, fun σ3 H3 => ∃ F3 ρ3, Same F1 F3 ∧ Rep X.K F3 G1 H3 fx ρ3 σ3 ∧ loopD g ms (xs.drop (i + 1)) ρ3 _, fun σ3 H3 ⟨F3, ρ3, s3, R3, h3⟩ => ⟨xs.length - (i + 1), by omega, rfl, hlt, F3, ρ3, s3, R3, h3⟩, fun y H3 hy => ?_⟩
            obtain ⟨d, hd, z⟩ := it2.yld i H' y H3 R2.fh R2.gh hlt hy
            have hdr : xs.drop i = d :: xs.drop (i + 1) := by
              rw [List.drop_eq_getElem_cons hlt]
              congr 1
              rw [List.getElem?_eq_getElem hlt] at hd
              exact Option.some.inj hd
            rw [hdr] at h2
            rcases z with ⟨rfl, dd⟩ | ⟨p, o, rfl, hp, rfl, dd⟩
            · exact ⟨F2, G1, ρ2, d, _, R2, dd, h2, fun ρ5 h5 F5 H5 σ5 s5 _ R5 => ⟨F5, G1, ρ5, _, R5, h5, by
                have sm := s2.trans s5
                exact ⟨fun ρ6 h6 F6 H6 σ6 s6 R6 => ⟨F6, ρ6, (s2.trans s5).trans s6, R6, h6⟩, (kb.mono sm).rt, (kb.mono sm).nx, fun ρ6 h6 F6 H6 σ6 s6 R6 => ⟨F6, ρ6, (s2.trans s5).trans s6, R6, h6⟩, (kb.mono sm).ex⟩⟩⟩
            · obtain ⟨hh, _⟩ := hy
              obtain ⟨sm4, R4⟩ := R2.newF (o := o) hp
              exact ⟨_, G1, ρ2, d, _, R4, dd _ sm4 upd_same, h2, fun ρ5 h5 F5 H5 σ5 s5 _ R5 => ⟨F5, G1, ρ5, _, R5, h5, by
                have sm := (s2.trans sm4).trans s5
                exact ⟨fun ρ6 h6 F6 H6 σ6 s6 R6 => ⟨F6, ρ6, sm.trans s6, R6, h6⟩, (kb.mono sm).rt, (kb.mono sm).nx, fun ρ6 h6 F6 H6 σ6 s6 R6 => ⟨F6, ρ6, sm.trans s6, R6, h6⟩, (kb.mono sm).ex⟩⟩⟩
          · have e : i = xs.length := by omega
            subst e
            rw [List.drop_length] at h2
            exact .inl ⟨it2.stop H' R2.fh R2.gh, kb.nx ρ2 h2 F2 H' σ' s2 R2⟩
end
end BB

namespace BB
open PySem PySem.Spec PyProof.Rows L2
section
variable {X : Cx} {K : PySem.W.Frag} {F F' G G' G1 H H' : Hp} {fx : List (Nat × Addr)} {W : WX} {ρ ρ' ρ1 ρ2 : DE} {σ σ' : L2.St} {pos pos' : Pos} {e o a b : Expr} {es : List Expr} {m mo : M} {ml : ML} {ma : MA} {v v' : V} {d : D} {s s' : SV} {ms : MS}
/-! ### a list that stays own in a field of an own instance -/
/-- a slot's part is rewritten, and it takes cells that nobody owned -/
theorem Rep.wrM {i : Nat} {p : Addr} {u : HO} (R : Rep K F G H fx ρ σ) (e : ρ[i]? = some s) (hp : s.at (σ[i]?) p) (ha : ∀ b, s'.at (σ[i]?) b → s.at (σ[i]?) b ∨ ∀ k, ¬ Owns ρ σ k b) (hs : SlOk K F G (upd H p u) s' (σ[i]?)) : Rep K F G (upd H p u) fx (ρ.set i s') σ := by
  obtain ⟨o, h2, h3, h4, _⟩ := (R.sl i s e).cell hp
  have back : ∀ j b, Owns (ρ.set i s') σ j b → (Owns ρ σ j b) ∨ (j = i ∧ ∀ k, ¬ Owns ρ σ k b) := fun j b ⟨x, q, z⟩ => by
    rcases set_get? q with ⟨rfl, rfl⟩ | ⟨hj, q⟩
    · rcases ha b z with z | z
      · exact .inl ⟨s, e, z⟩
      · exact .inr ⟨rfl, z⟩
    · exact .inl ⟨x, q, z⟩
  refine ⟨fun b w q => ?_, fun b w q => ?_, R.fg, by rw [List.length_set]; exact R.len, fun j x q => ?_, fun j k b q1 q2 => ?_, R.fix⟩
  · rw [upd_ne (ne_of_none q h3)]; exact R.fh _ _ q
  · rw [upd_ne (ne_of_none q h4)]; exact R.gh _ _ q
  · rcases set_get? q with ⟨rfl, rfl⟩ | ⟨hj, q⟩
    · exact hs
    · refine (R.sl j x q).move (Same.refl F) fun b hb => ?_
      obtain ⟨w, k2, k3, k4, _⟩ := (R.sl j x q).cell hb
      have ne : b ≠ p := fun z => hj (R.nd j i p ⟨x, q, by rw [← z]; exact hb⟩ ⟨s, e, hp⟩)
      exact ⟨k3, k4, by rw [upd_ne ne]⟩
  · rcases back j b q1 with z1 | ⟨rfl, z1⟩
    · rcases back k b q2 with z2 | ⟨rfl, z2⟩
      · exact R.nd j k b z1 z2
      · exact absurd z1 (z2 j)
    · rcases back k b q2 with z2 | ⟨rfl, z2⟩
      · exact absurd z2 (z1 k)
      · rfl
/-- what is owned besides the instance -/
def SV.ins : SV → Option (Addr × List (Str × D) × GL)
  | .oi c fs => some (c, fs, [])
  | .tr (.oi c fs) g => some (c, fs, g)
  | _ => none
def insS (o : Option SV) : Option (Addr × List (Str × D) × GL) := match o with
  | some s => s.ins
  | none => none
def sFldT (C : Addr) (j : Nat) (f : Str) (m : M) : MS := fun ρ E => m ρ (fun r ρ1 => match r.asTr, insS ρ1[j]? with
  | some (xs, g'), some (c, fs, g) => c = C ∧ fs.length < 1000 ∧ ∀ a, (a :: (g'.map (·.1) ++ g.map (·.1))).Nodup → E.nx (ρ1.set j (.tr (.oi c (putFD f (.adr a) fs)) ((a, xs) :: (g' ++ g))))
  | _, _ => False) E.ex
theorem SlOk.insS {c : Addr} {fs : List (Str × D)} {g : GL} {x : Option (Option V)} (h : SlOk K F G H s x) (e : s.ins = some (c, fs, g)) : ∃ p dx vs, x = some (some (.ref p)) ∧ H p = some (.ins c dx vs) ∧ F p = none ∧ G p = none ∧ DatF K F vs fs ∧ s.at x p ∧ GsOk K F G H g ∧ p ∉ g.map (·.1) ∧ ∀ b, b ∈ g.map (·.1) → s.at x b := by
  unfold SV.ins at e
  split at e
  · cases e
    obtain ⟨p, o, h1, h2, h3, h4, h5⟩ := h
    cases o <;> first | exact h5.elim | skip
    obtain ⟨rfl, h5⟩ := h5
    exact ⟨p, _, _, h1, h2, h3, h4, h5, h1, ⟨List.nodup_nil, fun p hp => by cases hp⟩, (by simp), fun b hb => by cases hb⟩
  · cases e
    obtain ⟨⟨p, o, h1, h2, h3, h4, h5⟩, hg, hn⟩ := h
    cases o <;> first | exact h5.elim | skip
    obtain ⟨rfl, h5⟩ := h5
    exact ⟨p, _, _, h1, h2, h3, h4, h5, .inl h1, hg, hn p h1, fun b hb => .inr hb⟩
  · cases e
theorem ss_fldT {C : Addr} (j : Nat) {x f : Str} {p1 p2 : Pos} (hc : Cls X.K C) (hn : NoAttr X.K C f) (he : ES X fx W e m)
    (hN : X.N[j]? = some x := by rfl) (hv : Vis X.env.scope x := by first | exact Or.inl rfl | exact Or.inr (Or.inl rfl) | exact Or.inr (Or.inr rfl)) (hd : (x == ("__debug__" : Str)) = false := by decide) (hcd : (x == ("__classdict__" : Str)) = false := by decide)
    (hs : swapsWith e (some (.Attribute (.Name x p1) f p2)) pos.line X.env = pure false := by rfl) : SS X fx W (.Assign [.Attribute (.Name x p1) f p2] e pos) (sFldT C j f m) :=
  ps_imp (ps_fld (pe_var hN hv hd hcd) he hs) fun D σ H ⟨F, G, ρ, E0, R, h, k⟩ => by
    refine ⟨F, G, ρ, _, _, R, h, fun r ρ1 h1 F1 H1 v1 s1 R1 k1 => ?_, k.ex σ⟩
    cases et : r.asTr with
    | none => simp only [et] at h1
    | some q =>
    obtain ⟨xs, g'⟩ := q
    cases ej : ρ1[j]? with
    | none => simp only [et, ej, insS] at h1
    | some sj =>
    cases ei : sj.ins with
    | none => simp only [et, ej, insS, ei] at h1
    | some q =>
    obtain ⟨c, fs, g⟩ := q
    simp only [et, ej, insS, ei] at h1
    obtain ⟨rfl, hl, h1⟩ := h1
    obtain ⟨a, rfl, kg, ko⟩ := k1.asTr et
    obtain ⟨p, dx, vs, g1, g2, g3, g4, g5, g6, g7, g8, g9⟩ := (R1.sl j _ ej).insS ei
    have hkeys : ∀ b, b ∈ ((a, xs) :: g').map (·.1) → ∀ i, ¬ Owns ρ1 σ i b := fun b hb i => by
      obtain ⟨q, hq, rfl⟩ := List.mem_map.mp hb
      exact ko q hq i
    have hp : ∀ b, b ∈ ((a, xs) :: g').map (·.1) → b ≠ p := fun b hb z => hkeys b hb j ⟨sj, ej, by rw [z]; exact g6⟩
    have nd : (((a, xs) :: g').map (·.1) ++ g.map (·.1)).Nodup := List.nodup_append.mpr ⟨kg.1, g7.1, fun b hb b' hb' z => hkeys b hb j ⟨sj, ej, g9 b (by rw [z]; exact hb')⟩⟩
    have h2 := h1 a (by simpa using nd)
    refine ⟨.ref p, g1, p, _, dx, vs, rfl, g2, hc, hn, by rw [g5.length]; exact hl, k.nx _ h2 F1 _ σ s1 (R1.wrM ej g6 (fun b hb => ?_) ?_)⟩
    · rcases hb with hb | hb
      · have hb : σ[j]? = some (some (.ref b)) := hb
        rw [g1] at hb
        cases hb
        exact .inl g6
      · rw [List.map_cons, List.map_append] at hb
        rcases List.mem_cons.mp hb with rfl | hb
        · exact .inr (hkeys _ List.mem_cons_self)
        rcases List.mem_append.mp hb with hb | hb
        · exact .inr (hkeys b (List.mem_cons_of_mem _ hb))
        · exact .inl (g9 b hb)
    · refine ⟨⟨p, _, g1, upd_same, g3, g4, rfl, g5.put (.adr a)⟩, ⟨by rw [List.map_cons, List.map_append]; simpa using nd, fun q hq => ?_⟩, fun b hb => ?_⟩
      · rcases List.mem_cons.mp hq with rfl | hq
        · obtain ⟨ws, k1, k2, k3, k4⟩ := kg.2 _ List.mem_cons_self
          exact ⟨ws, by rw [upd_ne (hp _ (by simp))]; exact k1, k2, k3, k4⟩
        rcases List.mem_append.mp hq with hq | hq
        · obtain ⟨ws, k1, k2, k3, k4⟩ := kg.2 q (List.mem_cons_of_mem _ hq)
          exact ⟨ws, by rw [upd_ne (hp _ (List.mem_map_of_mem (List.mem_cons_of_mem _ hq)))]; exact k1, k2, k3, k4⟩
        · obtain ⟨ws, k1, k2, k3, k4⟩ := g7.2 q hq
          have ne : q.1 ≠ p := fun z => g8 (by rw [← z]; exact List.mem_map_of_mem hq)
          exact ⟨ws, by rw [upd_ne ne]; exact k1, k2, k3, k4⟩
      · have hb : σ[j]? = some (some (.ref b)) := hb
        rw [g1] at hb
        cases hb
        rw [List.map_cons, List.map_append]
        intro z
        rcases List.mem_cons.mp z with z | z
        · exact hp a (by simp) z.symm
        rcases List.mem_append.mp z with z | z
        · exact hp p (List.mem_cons_of_mem _ z) rfl
        · exact g8 z
/-! ### C() -/
section
variable {CX : CXT} {k : Nat} {f C g : Addr} {fd : FuncData} {ps : List Str} {sp : Sp} {x mt : Str} {p apos : Pos} {fs : FS} {t : TA}
theorem pe_makeS0 {E : L2.St → XK} (M : Mk X.K C f) (F : FnOk X.prog X.w X.K X.mg X.base CX k f fd ps sp) (hr : Room (k + 1) X.A) (hg : Gl X x) (hm : X.mg x = some (.ref C)) (hb : Binds X.K fd ps []) (hx : ∀ σ, PassesAt CX X σ (E σ))
    (hdb : (x == ("__debug__" : Str)) = false := by decide) : PE X (.Call (.Name x p) [] [] pos) (tMakeS C sp E tNil) :=
  ⟨fun pins s σ H Q I h => wpAny_Call_Name_kw (ld_glob I hg hm (PySem.W.callWith_K0 I.kIn M.kp (run_makeS (us := []) (vs := []) M F hr hb (hx σ) I .nil h)) hdb)⟩
theorem es_make0 (M : Mk X.K C f) (Fo : FnD X.prog X.w X.K X.mg X.base k f fd ps fs) (hr : Room (k + 1) X.A) (hm : X.mg x = some (.ref C)) (hb : Binds X.K fd ps []) (tk : Takes X W)
    (hg : Gl X x := by rfl) (hdb : (x == ("__debug__" : Str)) = false := by decide) : ES X fx W (.Call (.Name x p) [] [] pos) (mMake ps.length C fs aNil) :=
  pe_imp (pe_makeS0 M Fo hr hg hm hb (fun σ => passAt tk σ) hdb) fun σ H Q h => by
    obtain ⟨F, G, ρ, Q0, X0, R, h, q, x⟩ := h
    have := ts_make (mg := aNil) (Q := Q) (C := C) (fs := fs) (n := ps.length) (W := W) (fx := fx) (K := X.K) (σ := σ) (H := H) ⟨F, G, ρ, Q0, X0, R, h, q, x⟩
    obtain ⟨F, G, ρ, Q0, X0, R, h, q, x⟩ := this
    exact q [] ρ h F H [] (Same.refl F) R trivial
/-! ### x.m(..), x lent -/
def selfI (C : Addr) (mt : Str) (o : Option SV) : Prop := match insS o with
  | some (c, fs, _) => c = C ∧ fs.lookup mt = none
  | none => False
def mMethL (n : Nat) (C : Addr) (mt : Str) (j : Nat) (fs : FS) (ma : MA) : M := fun ρ Q X => selfI C mt ρ[j]? ∧ ma ρ (fun as ρ2 => as.length + 1 = n ∧ (lentOf (.ln j :: as)).Nodup ∧
  fs (AA.sv ρ2 (.ln j) :: as.map (AA.sv ρ2)) (fun r ρa => okRes r fun r => Q r (giveBack (.ln j :: as) ρa ρ2)) (fun c d ρa => X c d (giveBack (.ln j :: as) ρa ρ2))) X
theorem selfI_ok {j : Nat} (R : Rep K F G H fx ρ σ) (h : selfI C mt ρ[j]?) : ∃ a dx vs, σ[j]? = some (some (.ref a)) ∧ H a = some (.ins C dx vs) ∧ vs.lookup mt = none := by
  unfold selfI at h
  cases ej : ρ[j]? with
  | none => simp only [ej, insS] at h
  | some sj =>
  cases ei : sj.ins with
  | none => simp only [ej, insS, ei] at h
  | some q =>
  obtain ⟨c, fs, g⟩ := q
  simp only [ej, insS, ei] at h
  obtain ⟨rfl, h⟩ := h
  obtain ⟨p, dx, vs, g1, g2, g3, g4, g5, _⟩ := (R.sl j _ ej).insS ei
  exact ⟨p, dx, vs, g1, g2, g5.none h⟩
theorem es_methL {pl : Sem Bool} {p : Pos} (j : Nat) (hc : Cls X.K C) (hm : Meth X.K C mt f) (Fo : FnD X.prog X.w X.K X.mg X.base k f fd ps fs) (hr : Room k X.A) (hb : Binds X.K fd ps []) (tk : Takes X W) (ha : EA X fx W (e :: es) ma)
    (hN : X.N[j]? = some x := by rfl) (hv : Vis X.env.scope x := by first | exact Or.inl rfl | exact Or.inr (Or.inl rfl) | exact Or.inr (Or.inr rfl)) (hd : (x == ("__debug__" : Str)) = false := by decide) (hcd : (x == ("__classdict__" : Str)) = false := by decide)
    (hst : starEach (e :: es) X.env = (false, eval e X.env) :: starEach es X.env := by rfl) (hpl : (backTo pos (starEach es X.env)).any (·.1) = false := by rfl)
    (ht : eval (.Call (.Attribute (.Name x p) mt apos) (e :: es) [] pos) X.env = (do
      let ov ← eval (.Name x p) X.env
      standAt apos.atName
      let (f, first) ← holding [ov] (getMethod ov mt pl)
      callWith pos f first (backTo pos (starEach (e :: es) X.env)) (backToKw pos (keywordEach [] X.env))) := by rfl) :
    ES X fx W (.Call (.Attribute (.Name x p) mt apos) (e :: es) [] pos) (mMethL ps.length C mt j fs ma) := by
  refine pe_imp (pe_methSE (pe_var hN hv hd hcd) hc hm Fo hr hb (fun σ => passAt tk σ) ha hst hpl ht) fun σ H Q ⟨F, G, ρ, Q0, X0, R, h, q, x⟩ => ?_
  obtain ⟨h0, h⟩ := h
  obtain ⟨a, dx, vs, ea, ha, hl⟩ := selfI_ok R h0
  refine ⟨.ref a, ea, a, dx, vs, rfl, ha, hl, F, G, ρ, _, X0, R, h, fun as ρ2 h3 F3 H3 us s3 R3 k3 => ?_, x⟩
  exact sp_call (as := .ln j :: as) R3 ⟨ea, k3⟩ (by rw [List.length_cons, ← aa_len k3]; exact h3.1) h3.2.1 h3.2.2 (fun r ρ' z F' H' v s2 => q r ρ' z F' H' v (s3.trans s2)) fun c d ρ' z F' H' v dx s2 R2 hd dd => x c d ρ' z F' H' v dx (s3.trans s2) R2 hd dd
end
end
end BB

namespace BB
open PySem PySem.Spec PyProof.Rows L2
/-! ### sorted(xs) of data -/
def encD (d : D) : PyData := d.py.getD .none
def sortD (xs : List D) : List D := xs.mergeSort (PySem.W.dataLe false encD)
def rSortedD (K : PySem.W.Frag) : List V → Hp → VK → Prop := fun us H Q => ∃ (a : Addr) (zs : List (V × D)), us = [.ref a] ∧ SqL K H a (zs.map (·.1)) ∧ (∀ z, z ∈ zs → ∃ p, z.2.py = some p ∧ Dp K H z.1 p ∧ p.depth ≤ 60) ∧
  PySem.W.AllAlike (zs.map fun z => encD z.2) ∧ PySem.W.Sortable (zs.map fun z => encD z.2) ∧
  ∀ p, H p = none → Q (.ref p) (upd H p (.lst ((zs.mergeSort (PySem.W.dataLe false fun z => encD z.2)).map (·.1))))
section
variable {X : Cx}
theorem each_of {α β γ : Type} {R : α → β → Prop} {f : γ → β} : ∀ {us : List α} {zs : List γ}, PySem.W.EachIs (fun u z => R u (f z)) us zs → PySem.W.EachIs R us (zs.map f)
  | _, _, .nil => .nil
  | _, _, .cons h t => .cons h (each_of t)
theorem vals_each : ∀ {us : List Value} {zs : List (V × D)}, Vals (zs.map (·.1)) us → PySem.W.EachIs (fun (u : Value) (z : V × D) => RelV z.1 u) us zs
  | [], [], _ => .nil
  | u :: us, z :: zs, h => by
    rw [List.map_cons] at h
    cases h with
    | cons h t => exact .cons h (vals_each t)
  | [], _ :: _, h => by rw [List.map_cons] at h; cases h
  | _ :: _, [], h => by rw [List.map_nil] at h; cases h
theorem each_vals : ∀ {us : List Value} {zs : List (V × D)}, PySem.W.EachIs (fun (u : Value) (z : V × D) => RelV z.1 u) us zs → Vals (zs.map (·.1)) us
  | _, _, .nil => .nil
  | _, _, .cons h t => .cons h (each_vals t)
theorem each_and {α β : Type} {R S : α → β → Prop} : ∀ {us : List α} {zs : List β}, PySem.W.EachIs R us zs → (∀ u z, z ∈ zs → R u z → S u z) → PySem.W.EachIs S us zs
  | _, _, .nil, _ => .nil
  | _, _, .cons h t, k => .cons (k _ _ List.mem_cons_self h) (each_and t fun u z hz => k u z (List.mem_cons_of_mem _ hz))
theorem cr_sortedD (hu : X.A.units + 64 < cLine) : CallR X (.builtin "sorted") (rSortedD X.K) := by
  intro pins s σ H us ws Q I r h
  obtain ⟨a, zs, rfl, hs, hd, hal, hso, q⟩ := h
  obtain ⟨its, rv, hl, hz⟩ := I.list hs
  rw [Vals.ref1 r]
  have ev := vals_each rv
  rw [List.length_map] at hz
  refine PySem.W.sorted_data (R := fun (u : Value) (z : V × D) => RelV z.1 u) (enc := fun z : V × D => encD z.2) (bs := zs) hl.isList ev (each_and ev fun u z hz ru => ?_) hal hso hz (fun z hz => ?_) fun out h1 h2 => ?_
  · obtain ⟨p, e, dp, _⟩ := hd z hz
    have ep : encD z.2 = p := by unfold encD; rw [e]; rfl
    show ∃ as, Reads s.heap u (encD z.2) as
    rw [ep]
    exact Dp.reads I p z.1 u dp ru
  · obtain ⟨p, e, dp, hdp⟩ := hd z hz
    have ep : encD z.2 = p := by unfold encD; rw [e]; rfl
    show X.A.units + 2 + (encD z.2).depth < cLine
    rw [ep]
    omega
  · obtain ⟨ep, he'⟩ := PyProof.Rows.sortedAll_at s.heap its out.toArray
    have rv2 := each_vals h2
    generalize hws : (zs.mergeSort (PySem.W.dataLe false fun z => encD z.2)).map (·.1) = ws' at rv2 q
    have hlen : ws'.length ≤ sizeLine := by
      rw [← hws, List.length_map, List.length_mergeSort]
      exact hz
    exact ⟨.ref _, upd H (s.heap.objs.size + 1) (.lst ws'), I.laid (t' := s.toks) (fun _ _ => PyProof.Rows.sortedAll_old) (Nat.le_succ _) ⟨hlen, out, ep, rv2, he'⟩, rfl, q _ (I.hok.fresh (Nat.le_succ _))⟩
end
section
variable {X : Cx} {K : PySem.W.Frag} {F F' G H : Hp} {fx : List (Nat × Addr)} {W : WX} {ρ : DE} {σ : L2.St} {pos p : Pos} {e : Expr} {m ma : M}
def fSortedD : F1 := fun d Q => match d with
  | .lst xs => (∀ x, x ∈ xs → ∃ p, x.py = some p ∧ p.depth ≤ 60) ∧ PySem.W.AllAlike (xs.map encD) ∧ PySem.W.Sortable (xs.map encD) ∧ Q (.o (.ow (sortD xs)))
  | _ => False
theorem datl_zip : ∀ {vs : List V} {xs : List D}, DatL K F vs xs → (vs.zip xs).map (·.1) = vs ∧ (vs.zip xs).map (·.2) = xs ∧ ∀ z, z ∈ vs.zip xs → Dat K F z.1 z.2
  | _, _, .nil => ⟨rfl, rfl, fun z hz => by cases hz⟩
  | _, _, .cons h t => by
    obtain ⟨h1, h2, h3⟩ := datl_zip t
    refine ⟨by rw [List.zip_cons_cons, List.map_cons, h1], by rw [List.zip_cons_cons, List.map_cons, h2], fun z hz => ?_⟩
    rw [List.zip_cons_cons] at hz
    rcases List.mem_cons.mp hz with rfl | hz
    · exact h
    · exact h3 z hz
theorem datl_maps : ∀ zs : List (V × D), (∀ z, z ∈ zs → Dat K F z.1 z.2) → DatL K F (zs.map (·.1)) (zs.map (·.2))
  | [], _ => .nil
  | z :: zs, h => .cons (h z List.mem_cons_self) (datl_maps zs fun y hy => h y (List.mem_cons_of_mem _ hy))
theorem snd_sortedD : Snd1 K (fun x => rSortedD K [x]) fSortedD where
  ok := by
    intro F G H fx ρ σ x d Q0 Q R h1 hf q
    unfold fSortedD at hf
    split at hf
    · rename_i xs
      obtain ⟨f1, f2, f3, hf⟩ := hf
      obtain ⟨a, vs, rfl, ha, da⟩ := h1.lst_inv R
      obtain ⟨z1, z2, z3⟩ := datl_zip da
      have em : (vs.zip xs).map (fun z => encD z.2) = xs.map encD := by
        conv => rhs; rw [← z2, List.map_map]
        rfl
      refine ⟨a, vs.zip xs, rfl, by rw [z1]; exact SqL.of ha, fun z hz => ?_, by rw [em]; exact f2, by rw [em]; exact f3, fun p hp => ?_⟩
      · have hx : z.2 ∈ xs := by rw [← z2]; exact List.mem_map_of_mem hz
        obtain ⟨p, e, hd⟩ := f1 _ hx
        exact ⟨p, e, (Top.dat (z3 z hz)).dp R e, hd⟩
      · have es : ((vs.zip xs).mergeSort (PySem.W.dataLe false fun z => encD z.2)).map (·.2) = sortD xs := by
          unfold sortD
          conv => rhs; rw [← z2]
          exact List.map_mergeSort fun _ _ _ _ => rfl
        have dd : DatL K F (((vs.zip xs).mergeSort (PySem.W.dataLe false fun z => encD z.2)).map (·.1)) (sortD xs) := by
          rw [← es]
          exact datl_maps _ fun z hz => z3 z ((List.mergeSort_perm _ _).mem_iff.mp hz)
        obtain ⟨R1, k1⟩ := out_lst R hp dd
        exact q _ hf F _ _ (Same.refl F) R1 k1
    · exact hf.elim
theorem es_sortedD (hu : X.A.units + 64 < cLine) (hm : X.mg "sorted" = none) (ha : ES X fx W e ma) (hg : Gl X "sorted" := by rfl) (he : starEach [e] X.env = (false, eval e X.env) :: starEach [] X.env := by rfl) : ES X fx W (.Call (.Name "sorted" p) [e] [] pos) (mOp1 fSortedD ma) :=
  es_fn1 (cr_sortedD hu) snd_sortedD hm (by decide +kernel) ha hg (by decide) (by decide) he
end
end BB

namespace BB
open PySem PySem.Spec PyProof.Rows L2 TL
/-! ### lists of lists, one level deep -/
def FlatJ (xss : List (List D)) (n : Nat) (acc : List D) (gg : GL) : Prop := ∃ ps : List Addr, ps.length = n ∧ ps.Nodup ∧ acc = ps.map D.adr ∧ gg = ps.zip (xss.take n)
theorem FlatJ.zero (xss : List (List D)) : FlatJ xss 0 [] [] := ⟨[], rfl, List.nodup_nil, rfl, rfl⟩
theorem zip_keys {xss : List (List D)} {ps : List Addr} (h : ps.length ≤ xss.length) : (ps.zip xss).map (·.1) = ps := List.map_fst_zip h
theorem FlatJ.step {xss : List (List D)} {n : Nat} {acc : List D} {gg : GL} {a : Addr} {xs : List D} (h : FlatJ xss n acc gg) (hf : xss[n]? = some xs) (hd : (gg.map (·.1) ++ [a]).Nodup) : FlatJ xss (n + 1) (acc ++ [.adr a]) (gg ++ [(a, xs)]) := by
  obtain ⟨ps, h1, h2, rfl, rfl⟩ := h
  have hn : n < xss.length := (List.getElem?_eq_some_iff.mp hf).1
  rw [zip_keys (by rw [List.length_take]; omega)] at hd
  refine ⟨ps ++ [a], by rw [List.length_append, h1]; rfl, hd, by rw [List.map_append]; rfl, ?_⟩
  rw [List.take_add_one, hf, Option.toList_some, List.zip_append (by rw [List.length_take]; omega)]
  rfl
theorem FlatJ.len {xss : List (List D)} {n : Nat} {acc : List D} {gg : GL} (h : FlatJ xss n acc gg) : acc.length = n := by
  obtain ⟨ps, h1, _, rfl, _⟩ := h
  rw [List.length_map, h1]
theorem zip_look {xs : List D} : ∀ {ps : List Addr} {xss : List (List D)} {j : Nat} {p : Addr}, ps.Nodup → ps[j]? = some p → xss[j]? = some xs → (ps.zip xss).lookup p = some xs
  | [], _, _, _, _, h, _ => by simp at h
  | _ :: _, [], _, _, _, _, h => by simp at h
  | q :: ps, ys :: xss, 0, p, _, h, h' => by
    simp at h h'
    subst h h'
    rw [List.zip_cons_cons, List.lookup_cons_self]
  | q :: ps, ys :: xss, j + 1, p, n, h, h' => by
    have hp : p ∈ ps := List.mem_of_getElem? (i := j) (by simpa using h)
    have ne : (p == q) = false := by
      have : p ≠ q := fun e => (List.nodup_cons.mp n).1 (e ▸ hp)
      simpa using this
    rw [List.zip_cons_cons, List.lookup_cons, ne]
    exact zip_look (List.nodup_cons.mp n).2 (by simpa using h) (by simpa using h')
theorem setG_off {g : GL} {p : Addr} {ys : List D} (h : p ∉ g.map (·.1)) : setG g p ys = g := by
  unfold setG
  conv => rhs; rw [← List.map_id g]
  refine List.map_congr_left fun q hq => ?_
  rw [if_neg fun e => h (by rw [← e]; exact List.mem_map_of_mem hq)]
  rfl
theorem zip_set {ys : List D} : ∀ {ps : List Addr} {xss : List (List D)} {j : Nat} {p : Addr}, ps.Nodup → ps.length = xss.length → ps[j]? = some p → setG (ps.zip xss) p ys = ps.zip (xss.set j ys)
  | [], _, _, _, _, _, h => by simp at h
  | _ :: _, [], _, _, _, h, _ => by simp at h
  | q :: ps, zs :: xss, 0, p, n, hl, h => by
    simp at h
    subst h
    have hl' : ps.length = xss.length := by simpa using hl
    show (if q = q then (q, ys) else (q, zs)) :: setG (ps.zip xss) q ys = (q, ys) :: ps.zip xss
    rw [if_pos rfl, setG_off (by rw [zip_keys (by omega)]; exact (List.nodup_cons.mp n).1)]
  | q :: ps, zs :: xss, j + 1, p, n, hl, h => by
    have hl' : ps.length = xss.length := by simpa using hl
    have h' : ps[j]? = some p := by simpa using h
    have ne : q ≠ p := fun e => (List.nodup_cons.mp n).1 (e ▸ List.mem_of_getElem? h')
    show (if q = p then (p, ys) else (q, zs)) :: setG (ps.zip xss) p ys = (q, zs) :: ps.zip (xss.set j ys)
    rw [if_neg ne, zip_set (List.nodup_cons.mp n).2 hl' h']
theorem map_fill0 (g : GL) (xs : List D) : xs.map (fillD g 0) = xs := by
  conv => rhs; rw [← List.map_id xs]
  exact List.map_congr_left fun x _ => rfl
theorem flat_fill {ps : List Addr} {xss : List (List D)} (n : ps.Nodup) (hl : ps.length = xss.length) : (ps.map D.adr).map (fillD (ps.zip xss) 1) = xss.map D.lst := by
  refine List.ext_getElem? fun i => ?_
  rw [List.map_map, List.getElem?_map, List.getElem?_map]
  cases e : ps[i]? with
  | none =>
    have : xss[i]? = none := List.getElem?_eq_none (by rw [← hl]; exact List.getElem?_eq_none_iff.mp e)
    rw [this]; rfl
  | some p =>
    have hi : i < xss.length := by rw [← hl]; exact (List.getElem?_eq_some_iff.mp e).1
    obtain ⟨xs, e2⟩ : ∃ xs, xss[i]? = some xs := ⟨_, List.getElem?_eq_getElem hi⟩
    rw [e2]
    have el := zip_look n e e2
    show some (fillD (ps.zip xss) 1 (.adr p)) = some (D.lst xs)
    unfold fillD
    rw [el]
    show some (D.lst (xs.map (fillD (ps.zip xss) 0))) = _
    rw [map_fill0]
/-! ### kinds with something wrong -/
def NmOk (x : Str) : Prop := OkS x ∧ x.length ≤ 2 ∧ ∀ c, c ∈ x.cps.toList → c < 1000
structure BLine (m : Nat) (l : Line) : Prop where
  nm : NmOk l.1
  st : l.2.1.natAbs ≤ 99
  rs : l.2.2.length ≤ m
  rw : ∀ r, r ∈ l.2.2 → r.length ≤ m
  fm : ∀ r, r ∈ l.2.2 → ∀ f, f ∈ r → f.length ≤ m ∧ ∀ k, k ∈ f → k.1.natAbs ≤ 9 ∧ NmOk k.2
structure BentOk (m : Nat) (ls : List Line) : Prop where
  ne : 1 ≤ ls.length
  few : ls.length ≤ 4
  ln : ∀ l, l ∈ ls → BLine m l
theorem BLine.mono {m m' : Nat} {l : Line} (h : BLine m l) (hm : m ≤ m') : BLine m' l :=
  ⟨h.nm, h.st, Nat.le_trans h.rs hm, fun r hr => Nat.le_trans (h.rw r hr) hm, fun r hr f hf => ⟨Nat.le_trans (h.fm r hr f hf).1 hm, (h.fm r hr f hf).2⟩⟩
theorem BentOk.put {m m' : Nat} {ls : List Line} {l : Line} (h : BentOk m ls) (hm : m ≤ m') (hl : BLine m' l) (i : Nat) : BentOk m' (ls.set i l) :=
  ⟨by rw [List.length_set]; exact h.ne, by rw [List.length_set]; exact h.few, fun x hx => by
    rcases List.mem_or_eq_of_mem_set hx with hx | rfl
    · exact (h.ln x hx).mono hm
    · exact hl⟩
theorem ltr_nm {x : Str} (h : Ltr x) (ho : OkS x) : NmOk x := by
  obtain ⟨c, rfl, h1, h2⟩ := h
  refine ⟨ho, show 1 ≤ 2 by decide, fun d hd => ?_⟩
  have : d = c := List.mem_singleton.mp hd
  omega
theorem KindOk.bent {b : Nat} {ls : List Line} (h : KindOk b ls) (h4 : ls.length ≤ 4) : BentOk 4 ls where
  ne := h.ne
  few := h4
  ln l hl := by
    have nm : ∀ x, x ∈ nmsOf ls → NmOk x := fun x hx => ltr_nm (isNm_ltr (h.bi.nam x hx)) (h.bi.ok.nm x hx)
    have hb := h.bi.ok.base
    obtain ⟨s1, s2⟩ := h.bi.ok.sq l hl
    exact ⟨nm _ (List.mem_map_of_mem hl), (h.ln l hl).st, by omega, fun r hr => by rw [s2 r hr]; omega, fun r hr f hf => ⟨((h.ln l hl).fm r hr f hf).1, fun k hk => ⟨(((h.ln l hl).fm r hr f hf).2 k hk).1, nm _ (((h.ln l hl).fm r hr f hf).2 k hk).2⟩⟩⟩
theorem shw_nm {x : Str} (h : NmOk x) : Shw 0 28 (.str x) := (Shw.str h.2.2).mono (Nat.le_refl _) (by have := h.2.1; omega)
theorem BentOk.shown {m : Nat} {ls : List Line} (h : BentOk m ls) (hm : m ≤ 9) : Shown (.lst (ls.map lineL)) := by
  have si : ∀ i : Int, i.natAbs ≤ 99 → Shw 0 28 (.int i) := fun i hi => (shw_small (by omega)).mono (Nat.le_refl _) (by omega)
  refine shown_of (n := 4 * (155828 + 2) + 8) (k := 6) ?_ (by decide) (by decide)
  refine shw_lst' (fun y hy => ?_) (by rw [List.length_map]; exact h.few)
  obtain ⟨l, hl, rfl⟩ := List.mem_map.mp hy
  have hb := h.ln l hl
  have hrs := hb.rs
  refine shw_tup' (m := 3) (n := 51938) (fun z hz => ?_) (Nat.le_refl _)
  rcases List.mem_cons.mp hz with rfl | hz
  · exact (shw_nm hb.nm).mono (by omega) (by omega)
  rcases List.mem_cons.mp hz with rfl | hz
  · exact (si _ hb.st).mono (by omega) (by omega)
  rw [List.mem_singleton.mp hz]
  refine shw_lst' (m := 9) (n := 5768) (fun u hu => ?_) (by rw [List.length_map]; omega)
  obtain ⟨r, hr, rfl⟩ := List.mem_map.mp hu
  have hrw := hb.rw r hr
  refine shw_lst' (m := 9) (n := 638) (fun v hv => ?_) (by rw [List.length_map]; omega)
  obtain ⟨f, hf, rfl⟩ := List.mem_map.mp hv
  obtain ⟨f1, f2⟩ := hb.fm r hr f hf
  refine shw_lst' (m := 9) (n := 68) (fun w hw => ?_) (by rw [List.length_map]; omega)
  obtain ⟨c, hc, rfl⟩ := List.mem_map.mp hw
  refine shw_tup' (m := 2) (n := 28) (fun k hk => ?_) (Nat.le_refl _)
  rcases List.mem_cons.mp hk with rfl | hk
  · have := (f2 c hc).1
    exact si _ (by omega)
  rw [List.mem_singleton.mp hk]
  exact shw_nm (f2 c hc).2
/-! ### what is refused first -/
def badN (seen : List Str) : List Str → Option Str
  | [] => none
  | x :: xs => if isNm x = true ∧ x ∉ seen then badN (seen ++ [x]) xs else some x
def lineOk (b : Int) (known : List Str) (l : Line) : Bool := (decide ((l.2.2.length : Int) = b) && l.2.2.all fun r => decide ((r.length : Int) = b)) && (othersL l.2.2).all fun o => decide (o ∈ known)
def badL (b : Int) (known : List Str) : List Line → Option Str
  | [] => none
  | l :: ls => if lineOk b known l = true then badL b known ls else some l.1
theorem badN_step {ns : List Str} {i : Nat} {x : Str} (h : ns[i]? = some x) (g : isNm x = true ∧ x ∉ ns.take i) : badN (ns.take i) (ns.drop i) = badN (ns.take (i + 1)) (ns.drop (i + 1)) := by
  have hi := (List.getElem?_eq_some_iff.mp h)
  rw [List.drop_eq_getElem_cons hi.1, hi.2, List.take_add_one, h]
  conv => lhs; unfold badN
  rw [if_pos g]
  rfl
theorem badN_stop {ns : List Str} {i : Nat} {x : Str} (h : ns[i]? = some x) (g : ¬ (isNm x = true ∧ x ∉ ns.take i)) : badN (ns.take i) (ns.drop i) = some x := by
  have hi := (List.getElem?_eq_some_iff.mp h)
  rw [List.drop_eq_getElem_cons hi.1, hi.2]
  unfold badN
  rw [if_neg g]
theorem badN_end (ns : List Str) : badN (ns.take ns.length) (ns.drop ns.length) = none := by
  rw [List.drop_length]; rfl
theorem badL_step {b : Int} {known : List Str} {ls : List Line} {i : Nat} {x : Line} (h : ls[i]? = some x) (g : lineOk b known x = true) : badL b known (ls.drop i) = badL b known (ls.drop (i + 1)) := by
  have hi := (List.getElem?_eq_some_iff.mp h)
  rw [List.drop_eq_getElem_cons hi.1, hi.2]
  conv => lhs; unfold badL
  rw [if_pos g]
theorem badL_stop {b : Int} {known : List Str} {ls : List Line} {i : Nat} {x : Line} (h : ls[i]? = some x) (g : lineOk b known x = false) : badL b known (ls.drop i) = some x.1 := by
  have hi := (List.getElem?_eq_some_iff.mp h)
  rw [List.drop_eq_getElem_cons hi.1, hi.2]
  unfold badL
  rw [if_neg (by rw [g]; decide)]
def due3 (b : Int) (ls : List Line) : List D := if b = 2 ∨ b = 3 then (match badN [] (nmsOf ls) with
    | some x => [.str "n", .str x]
    | none => match badL b (nmsOf ls) ls with
      | some x => [.str "f", .str x]
      | none => []) else [.str "b", .int b]
theorem due3_shw {b : Int} {ls : List Line} {m : Nat} (h : BentOk m ls) (hb : b.natAbs < 2 ^ 200) : Shw 1 4028 (.lst (due3 b ls)) := by
  have nmn : ∀ (seen ns : List Str), (∀ x, x ∈ ns → NmOk x) → ∀ x, badN seen ns = some x → NmOk x := fun seen ns => by
    induction ns generalizing seen with
    | nil => intro _ x e; cases e
    | cons y ys ih =>
      intro k x e
      unfold badN at e
      split at e
      · exact ih _ (fun z hz => k z (List.mem_cons_of_mem _ hz)) x e
      · cases e; exact k _ List.mem_cons_self
  have nml : ∀ (kn : List Str) (ls : List Line), (∀ x, x ∈ ls → NmOk x.1) → ∀ x, badL b kn ls = some x → NmOk x := fun kn ls => by
    induction ls with
    | nil => intro _ x e; cases e
    | cons y ys ih =>
      intro k x e
      unfold badL at e
      split at e
      · exact ih (fun z hz => k z (List.mem_cons_of_mem _ hz)) x e
      · cases e; exact k _ List.mem_cons_self
  unfold due3
  split
  · cases e : badN [] (nmsOf ls) with
    | some x =>
      have := nmn _ _ (fun y hy => by obtain ⟨l, hl, rfl⟩ := List.mem_map.mp hy; exact (h.ln l hl).nm) x e
      exact shw_ss (by decide) (by decide) this.2.2 (by have := this.2.1; omega)
    | none =>
      cases e2 : badL b (nmsOf ls) ls with
      | some x =>
        have := nml _ _ (fun y hy => (h.ln y hy).nm) x e2
        exact shw_ss (by decide) (by decide) this.2.2 (by have := this.2.1; omega)
      | none => exact shw_nil.mono (Nat.le_refl _) (by decide)
  · exact shw_si (by decide) (by decide) (Nat.lt_of_lt_of_le hb (Nat.pow_le_pow_right (n := 2) (by decide) (show 200 ≤ 1900 by decide)))
theorem badL_none {b : Int} {kn : List Str} : ∀ {ls : List Line}, badL b kn ls = none → ∀ l, l ∈ ls → lineOk b kn l = true
  | [], _, l, hl => by cases hl
  | x :: ls, h, l, hl => by
    unfold badL at h
    split at h
    · rename_i g
      rcases List.mem_cons.mp hl with rfl | hl
      · exact g
      · exact badL_none h l hl
    · cases h
theorem badN_none : ∀ {ns seen : List Str}, badN seen ns = none → (∀ x, x ∈ ns → isNm x = true) ∧ ns.Nodup ∧ ∀ x, x ∈ ns → x ∉ seen
  | [], _, _ => ⟨(fun x hx => nomatch hx), List.nodup_nil, (fun x hx => nomatch hx)⟩
  | y :: ns, seen, h => by
    unfold badN at h
    split at h
    · rename_i g
      obtain ⟨h1, h2, h3⟩ := badN_none h
      refine ⟨fun x hx => ?_, List.nodup_cons.mpr ⟨fun hy => ?_, h2⟩, fun x hx => ?_⟩
      · rcases List.mem_cons.mp hx with rfl | hx
        · exact g.1
        · exact h1 x hx
      · exact h3 y hy (List.mem_append_right _ List.mem_cons_self)
      · rcases List.mem_cons.mp hx with rfl | hx
        · exact g.2
        · exact fun z => h3 x hx (List.mem_append_left _ z)
    · cases h
end BB
namespace BB
open PySem PySem.Spec PyProof.Rows L2 TL
/-- sizes and texts as a book's making wants them -/
structure Tame (ls : List Line) : Prop where
  few : ls.length ≤ 26
  nm : ∀ x, x ∈ nmsOf ls → x.length ≤ sizeLine ∧ OkS x
  rs : ∀ l, l ∈ ls → l.2.2.length ≤ 9 ∧ ∀ r, r ∈ l.2.2 → r.length ≤ 9 ∧ ∀ f, f ∈ r → f.length ≤ 9 ∧ ∀ c, c ∈ f → OkS c.2
theorem BentOk.tame {m : Nat} {ls : List Line} (h : BentOk m ls) (hm : m ≤ 9) : Tame ls where
  few := by have := h.few; omega
  nm x hx := by
    obtain ⟨l, hl, rfl⟩ := List.mem_map.mp hx
    have := (h.ln l hl).nm
    exact ⟨by rw [sizeLine_eq]; have := this.2.1; omega, this.1⟩
  rs l hl := by
    have hb := h.ln l hl
    exact ⟨Nat.le_trans hb.rs hm, fun r hr => ⟨Nat.le_trans (hb.rw r hr) hm, fun f hf => ⟨Nat.le_trans (hb.fm r hr f hf).1 hm, fun c hc => ((hb.fm r hr f hf).2 c hc).2.1⟩⟩⟩
theorem Tame.oth {ls : List Line} (h : Tame ls) {x : Line} (hx : x ∈ ls) : (othersL x.2.2).length ≤ 729 ∧ ∀ o, o ∈ othersL x.2.2 → OkS o := by
  obtain ⟨h1, h2⟩ := h.rs x hx
  constructor
  · have a1 : ∀ r, r ∈ x.2.2 → (r.flatMap flatF).length ≤ 81 := fun r hr => by
      obtain ⟨g1, g2⟩ := h2 r hr
      have := flat_len (f := flatF) (n := 9) (l := r) fun f hf => by unfold flatF; rw [List.length_map]; exact (g2 f hf).1
      have : r.length * 9 ≤ 9 * 9 := Nat.mul_le_mul_right _ g1
      omega
    have := flat_len (f := fun r : List Form => r.flatMap flatF) (n := 81) (l := x.2.2) a1
    have : x.2.2.length * 81 ≤ 9 * 81 := Nat.mul_le_mul_right _ h1
    unfold othersL
    omega
  · intro o ho
    unfold othersL at ho
    obtain ⟨r, hr, ho⟩ := List.mem_flatMap.mp ho
    obtain ⟨f, hf, ho⟩ := List.mem_flatMap.mp ho
    obtain ⟨c, hc, rfl⟩ := List.mem_map.mp ho
    exact ((h2 r hr).2 f hf).2 c hc
theorem fIn_odd {b : Int} (h : ¬ (b = 2 ∨ b = 3)) (Q : RV → Prop) : fIn true (.int b) (.tup [.int 2, .int 3]) Q = Q (.v (.bl true)) := by
  have e2 : eqF (.int 2) (.int b) = false := by
    have : (2 : Int) ≠ b := fun q => h (.inl q.symm)
    simpa [eqF] using this
  have e3 : eqF (.int 3) (.int b) = false := by
    have : (3 : Int) ≠ b := fun q => h (.inr q.symm)
    simpa [eqF] using this
  unfold fIn
  simp only [List.any, e2, e3]
  exact propext ⟨fun z => z.2, fun z => ⟨⟨rfl, rfl⟩, z⟩⟩
theorem fIn_base {b : Int} (h : b = 2 ∨ b = 3) (Q : RV → Prop) : fIn true (.int b) (.tup [.int 2, .int 3]) Q = Q (.v (.bl false)) := by
  rcases h with rfl | rfl
  · exact fIn_bases (b := 2) (by decide) (by decide) Q
  · exact fIn_bases (b := 3) (by decide) (by decide) Q
end BB
namespace BB
open PySem PySem.Spec PyProof.Rows L2 TL
theorem fEq_ls (neg : Bool) {xs ys : List Str} (hx : ∀ x, x ∈ xs → OkS x) (hy : ∀ x, x ∈ ys → OkS x) (Q : RV → Prop) : fEq neg (.lst (xs.map D.str)) (.lst (ys.map D.str)) Q = Q (.v (.bl (if neg then !(decide (xs = ys)) else decide (xs = ys)))) :=
  (enc_lst enc_str).fEq (by decide) (fun _ _ => .inl rfl) hx hy neg Q
def strayF (kn : List Str) (f : Form) : List Str := (flatF f).filter fun o => !decide (o ∈ kn)
theorem stray_flat (kn : List Str) : ∀ f : Form, (f.flatMap fun c => if c.2 ∈ kn then [] else [D.str c.2]) = (strayF kn f).map D.str
  | [] => rfl
  | c :: f => by
    rw [List.flatMap_cons, stray_flat kn f]
    unfold strayF flatF
    rw [List.map_cons, List.filter_cons]
    by_cases h : c.2 ∈ kn
    · rw [if_pos h, decide_eq_true h]; rfl
    · rw [if_neg h, decide_eq_false h]; rfl
def strayB (kn : List Str) (f : Form) : Bool := !decide (strayF kn f = [])
theorem strayB_all (kn : List Str) (f : Form) : strayB kn f = !((flatF f).all fun o => decide (o ∈ kn)) := by
  unfold strayB strayF
  congr 1
  rw [Bool.eq_iff_iff, decide_eq_true_iff, List.filter_eq_nil_iff, List.all_eq_true]
  constructor
  · intro h x hx
    have := h x hx
    simpa using this
  · intro h x hx
    have := h x hx
    simpa using this
theorem all_flat {α β : Type} (f : α → List β) (p : β → Bool) : ∀ l : List α, (l.flatMap f).all p = l.all fun x => (f x).all p
  | [] => rfl
  | x :: l => by rw [List.flatMap_cons, List.all_append, List.all_cons, all_flat f p l]
theorem not_all {α : Type} (p : α → Bool) (l : List α) : (!l.all p) = l.any fun x => !p x := by
  induction l with
  | nil => rfl
  | cons x l ih => rw [List.all_cons, List.any_cons, ← ih]; cases p x <;> rfl
theorem othersL_stray (kn : List Str) (bl : List (List Form)) : (!(othersL bl).all fun o => decide (o ∈ kn)) = bl.any fun r => r.any (strayB kn) := by
  unfold othersL
  rw [all_flat, not_all]
  congr 1
  funext r
  rw [all_flat, not_all]
  congr 1
  funext f
  rw [strayB_all]
theorem any_take {α : Type} {l : List α} {i : Nat} {x : α} (h : l[i]? = some x) (p : α → Bool) : (l.take (i + 1)).any p = ((l.take i).any p || p x) := by
  rw [take_step h, List.any_append]
  simp
theorem odd_filter {α : Type} (p : α → Bool) (f : α → D) (l : List α) : (l.flatMap fun r => if p r = true then [f r] else []) = (l.filter p).map f := by
  induction l with
  | nil => rfl
  | cons x l ih =>
    rw [List.flatMap_cons, ih, List.filter_cons]
    by_cases h : p x = true
    · rw [if_pos h, if_pos h]; rfl
    · rw [if_neg h, if_neg h]; rfl
end BB
namespace BB
open PySem PySem.Spec PyProof.Rows L2 TL
theorem stray_len (kn : List Str) (f : Form) : (strayF kn f).length ≤ f.length := by
  have h1 : (strayF kn f).length ≤ (flatF f).length := List.length_filter_le _ _
  have h2 : (flatF f).length = f.length := by unfold flatF; rw [List.length_map]
  omega
theorem fEq_rowsN {rs : List (List Form)} (h : ∀ r, r ∈ rs → ∀ f, f ∈ r → ∀ c, c ∈ f → OkS c.2) (Q : RV → Prop) : fEq true (.lst (rs.map fun r => D.lst (r.map formL))) (.lst []) Q = Q (.v (.bl (!decide (rs = [])))) :=
  (enc_lst (enc_lst enc_formL)).fEq (x := rs) (y := []) (by decide) (fun _ _ => .inl rfl) (fun r hr f hf c hc => ⟨trivial, h r hr f hf c hc⟩) (fun _ hx => nomatch hx) true Q
theorem rows_all {b : Int} (rs : List (List Form)) : (!decide (rs.filter (fun r => !decide ((r.length : Int) = b)) = [])) = !(rs.all fun r => decide ((r.length : Int) = b)) := by
  congr 1
  rw [Bool.eq_iff_iff, decide_eq_true_iff, List.filter_eq_nil_iff, List.all_eq_true]
  constructor
  · intro h x hx
    have := h x hx
    simpa using this
  · intro h x hx
    have := h x hx
    simpa using this
end BB
namespace BB
open PySem PySem.Spec PyProof.Rows L2 TL
theorem BLine.rows {m m' : Nat} {nm : Str} {bg : Int} {rows rows' : List (List Form)} (h : BLine m (nm, bg, rows)) (hm : m ≤ m') (hl : rows'.length ≤ m') (hr : ∀ r, r ∈ rows' → r ∈ rows ∨ (r.length ≤ m' ∧ ∀ f, f ∈ r → f.length ≤ m' ∧ ∀ k, k ∈ f → k.1.natAbs ≤ 9 ∧ NmOk k.2)) : BLine m' (nm, bg, rows') :=
  ⟨h.nm, h.st, hl, fun r hx => by
    rcases hr r hx with z | z
    · exact Nat.le_trans (h.rw r z) hm
    · exact z.1, fun r hx f hf => by
    rcases hr r hx with z | z
    · exact ⟨Nat.le_trans (h.fm r z f hf).1 hm, (h.fm r z f hf).2⟩
    · exact z.2 f hf⟩
theorem BLine.named {m : Nat} {nm nm' : Str} {bg : Int} {rows : List (List Form)} (h : BLine m (nm, bg, rows)) (hn : NmOk nm') : BLine m (nm', bg, rows) := ⟨hn, h.st, h.rs, h.rw, h.fm⟩
theorem dropLast_map {α β : Type} (f : α → β) (l : List α) : (l.map f).dropLast = l.dropLast.map f := (List.map_dropLast).symm
end BB
namespace BB
open PySem PySem.Spec PyProof.Rows L2 TL
theorem fEq_formsN {r : List Form} (h : ∀ f, f ∈ r → ∀ c, c ∈ f → OkS c.2) (Q : RV → Prop) : fEq true (.lst (r.map formL)) (.lst []) Q = Q (.v (.bl (!decide (r = [])))) :=
  (enc_lst enc_formL).fEq (x := r) (y := []) (by decide) (fun _ _ => .inl rfl) (fun f hf c hc => ⟨trivial, h f hf c hc⟩) (fun _ hx => nomatch hx) true Q
end BB
namespace BB
open PySem PySem.Spec PyProof.Rows L2 TL
theorem fEq_same_str (x : Str) (Q : RV → Prop) : fEq false (.str x) (.str x) Q = Q (.v (.bl true)) := by
  rw [fEq_s]
  simp
end BB

namespace BB
open PySem PySem.Spec PyProof.Rows L2
/-! ### an expression read while all own slots are frozen; behind it they are as they were -/
mutual
/-- data without lists, instances, dicts -/
def D.plain : D → Bool
  | .non => true
  | .bl _ => true
  | .int _ => true
  | .str _ => true
  | .tup xs => D.plains xs
  | .adr _ => true
  | _ => false
def D.plains : List D → Bool
  | [] => true
  | x :: xs => x.plain && D.plains xs
end
def D.plainF : List (Str × D) → Bool
  | [] => true
  | x :: xs => x.2.plain && D.plainF xs
theorem plains_map {α : Type} {f : α → D} (h : ∀ x, (f x).plain = true) : ∀ l : List α, D.plains (l.map f) = true
  | [] => rfl
  | x :: l => by
    show ((f x).plain && D.plains (l.map f)) = true
    rw [h x, plains_map h l]; rfl
/-- list or instance -/
def LI (o : HO) : Prop := (∃ vs, o = .lst vs) ∨ ∃ c dx vs, o = .ins c dx vs
section
variable {X : Cx} {K : PySem.W.Frag} {F F' G H H' : Hp} {fx : List (Nat × Addr)} {W : WX} {ρ ρ' ρ1 : DE} {σ : L2.St} {pos p q : Pos} {e : Expr} {m : M} {a : Addr} {S : Addr → Prop} {v : V} {d : D}
theorem lessP_at {b : Addr} {o : HO} (hS : ∀ b, S b → ∃ o, F b = some o ∧ LI o) (h : F b = some o) (n : ¬ LI o) : lessL F S b = some o := by
  unfold lessL
  rw [if_neg (fun z => by obtain ⟨u, e, k⟩ := hS b z; rw [h] at e; cases e; exact n k)]
  exact h
mutual
theorem Dat.lessP (hS : ∀ b, S b → ∃ o, F b = some o ∧ LI o) : ∀ {d : D} {v : V}, Dat K F v d → d.plain = true → Dat K (lessL F S) v d
  | .non, _, h, _ => by cases h; exact .non
  | .bl _, _, h, _ => by cases h; exact .bl _
  | .int _, _, h, _ => by cases h; exact .int _
  | .str _, _, h, _ => by cases h; exact .str _
  | .lst _, _, _, n => by cases n
  | .tup xs, _, h, n => by
    cases h with
    | tup h t =>
      refine .tup ?_ (DatL.lessP hS t n)
      rcases h with (h | ⟨o, h⟩) | h
      · exact .inl (.inl (lessP_at hS h (by rintro (⟨_, z⟩ | ⟨_, _, _, z⟩) <;> cases z)))
      · exact .inl (.inr ⟨o, lessP_at hS h (by rintro (⟨_, z⟩ | ⟨_, _, _, z⟩) <;> cases z)⟩)
      · exact .inr h
  | .ins _ _, _, _, n => by cases n
  | .scr _, _, _, n => by cases n
  | .dic _, _, _, n => by cases n
  | .xcp _ _ _ _, _, _, n => by cases n
  | .adr _, _, h, _ => by cases h; exact .adr _
theorem DatL.lessP (hS : ∀ b, S b → ∃ o, F b = some o ∧ LI o) : ∀ {ds : List D} {vs : List V}, DatL K F vs ds → D.plains ds = true → DatL K (lessL F S) vs ds
  | [], _, h, _ => by cases h; exact .nil
  | d :: ds, _, h, n => by
    cases h with
    | cons h t =>
      have n' : (d.plain && D.plains ds) = true := n
      rw [Bool.and_eq_true] at n'
      exact .cons (Dat.lessP hS h n'.1) (DatL.lessP hS t n'.2)
end
theorem DatF.lessP (hS : ∀ b, S b → ∃ o, F b = some o ∧ LI o) : ∀ {ds : List (Str × D)} {vs : List (Str × V)}, DatF K F vs ds → D.plainF ds = true → DatF K (lessL F S) vs ds
  | [], _, h, _ => by cases h; exact .nil
  | d :: ds, _, h, n => by
    cases h with
    | cons h t =>
      have n' : (_ && D.plainF ds) = true := n
      rw [Bool.and_eq_true] at n'
      exact .cons (Dat.lessP hS h n'.1) (DatF.lessP hS t n'.2)
/-- what a slot reads as while it is frozen -/
def frzS (n : Nat) : SV → SV
  | .ow xs => .fz (.lst xs)
  | .oi c fs => .fz (.ins c fs)
  | .tr (.ow xs) g => .fz (.lst (xs.map (fillD g n)))
  | .tr (.oi c fs) g => .fz (.ins c (fs.map fun p => (p.1, fillD g n p.2)))
  | s => s
def SV.snapOk : SV → Bool
  | .no => true
  | .fz _ => true
  | .ow _ => true
  | .oi _ _ => true
  | .tr (.ow _) _ => true
  | .tr (.oi _ _) _ => true
  | _ => false
def snapAll : DE → Prop
  | [] => True
  | s :: ρ => s.snapOk = true ∧ snapAll ρ
def snapR (ρ : DE) (Q : MQ) (r : RV) : Prop := match r with
  | .v d => d.plain = true ∧ Q (.v d) ρ
  | .o (.ow xs) => D.plains xs = true ∧ Q (.o (.ow xs)) ρ
  | .o (.oi c fs) => D.plainF fs = true ∧ Q (.o (.oi c fs)) ρ
  | _ => False
def mSnap (n : Nat) (m : M) : M := fun ρ Q X => snapAll ρ ∧ m (ρ.map (frzS n)) (fun r _ => snapR ρ Q r) fun _ _ _ => False
theorem snapAll.get : ∀ {ρ : DE} {i : Nat} {s : SV}, snapAll ρ → ρ[i]? = some s → s.snapOk = true
  | [], _, _, _, e => by simp at e
  | t :: ρ, 0, s, h, e => by simp at e; subst e; exact h.1
  | t :: ρ, i + 1, s, h, e => snapAll.get (ρ := ρ) (i := i) h.2 (by simpa using e)
theorem SlOk.cellS {x : Option (Option V)} : ∀ {s : SV}, s.snapOk = true → SlOk K F G H s x → s.at x a → ∃ o, H a = some o ∧ F a = none ∧ G a = none ∧ LI o
  | .no, _, _, h => h.elim
  | .fz _, _, _, h => h.elim
  | .ow _, _, ⟨b, o, h1, h2, h3, h4, h5⟩, h => by
    have h : x = some (some (.ref a)) := h
    rw [h1] at h; cases h
    cases o <;> first | exact h5.elim | exact ⟨_, h2, h3, h4, .inl ⟨_, rfl⟩⟩
  | .oi _ _, _, ⟨b, o, h1, h2, h3, h4, h5⟩, h => by
    have h : x = some (some (.ref a)) := h
    rw [h1] at h; cases h
    cases o <;> first | exact h5.elim | exact ⟨_, h2, h3, h4, .inr ⟨_, _, _, rfl⟩⟩
  | .od _, e, _, _ => by cases e
  | .tr s g, e, k, h => by
    rcases h with h | h
    · exact SlOk.cellS (s := s) (by cases s <;> first | exact e | rfl | cases e) k.1 h
    · obtain ⟨p, hp, rfl⟩ := List.mem_map.mp h
      obtain ⟨vs, h1, h2, h3, _⟩ := k.2.1.2 p hp
      exact ⟨_, h1, h2, h3, .inl ⟨_, rfl⟩⟩
theorem fill_datF {g : GL} (hg : ∀ p, p ∈ g → ∃ vs, F p.1 = some (.lst vs) ∧ DatL K F vs p.2) (n : Nat) : ∀ {vs : List (Str × V)} {xs : List (Str × D)}, DatF K F vs xs → DatF K F vs (xs.map fun p => (p.1, fillD g n p.2))
  | _, [], h => by cases h; exact .nil
  | _, x :: xs, h => by
    cases h with
    | cons h t => exact .cons (fill_dat hg n h) (fill_datF hg n t)
theorem Rep.snap (n : Nat) (R : Rep K F G H fx ρ σ) (hs : snapAll ρ) : ∃ F1, Same F F1 ∧ Rep K F1 G H fx (ρ.map (frzS n)) σ ∧ (∀ b, (∃ i, Owns ρ σ i b) → ∃ o, F1 b = some o ∧ LI o) ∧
    ∀ F' H' ρ', Same F1 F' → Rep K F' G H' fx ρ' σ → Same F (lessL F' fun b => ∃ i, Owns ρ σ i b) ∧ Rep K (lessL F' fun b => ∃ i, Owns ρ σ i b) G H' fx ρ σ := by
  classical
  let F1 : Hp := fun b => if ∃ i, Owns ρ σ i b then H b else F b
  have g1 : ∀ b, (∃ i, Owns ρ σ i b) → F1 b = H b := fun b h => if_pos h
  have g2 : ∀ b, ¬ (∃ i, Owns ρ σ i b) → F1 b = F b := fun b h => if_neg h
  have cell : ∀ b, (∃ i, Owns ρ σ i b) → ∃ o, H b = some o ∧ F b = none ∧ G b = none ∧ LI o := fun b ⟨i, s, e, hb⟩ => (R.sl i s e).cellS (hs.get e) hb
  have sm : Same F F1 := fun b o q => by
    rw [g2 b fun z => by
      obtain ⟨_, _, z, _⟩ := cell b z
      rw [q] at z; cases z]
    exact q
  have at1 : ∀ (i : Nat) (s : SV), ρ[i]? = some s → ∀ b, s.at (σ[i]?) b → F1 b = H b := fun i s e b hb => g1 b ⟨i, s, e, hb⟩
  have R1 : Rep K F1 G H fx (ρ.map (frzS n)) σ := by
    have none_ : ∀ i b, ¬ Owns (ρ.map (frzS n)) σ i b := fun i b ⟨s, e, hb⟩ => by
      rw [List.getElem?_map] at e
      cases e1 : ρ[i]? with
      | none => rw [e1] at e; cases e
      | some t =>
        rw [e1] at e
        have e : frzS n t = s := Option.some.inj e
        have ok := hs.get e1
        subst e
        cases t with
        | no => exact hb.elim
        | fz _ => exact hb.elim
        | ow _ => exact hb.elim
        | oi _ _ => exact hb.elim
        | od _ => cases ok
        | tr t g => cases t <;> first | exact hb.elim | cases ok
    refine ⟨fun b o q => ?_, R.gh, fun b o q => ?_, by rw [List.length_map]; exact R.len, fun i s e => ?_, fun i j b q1 _ => (none_ i b q1).elim, R.fix⟩
    · by_cases hb : ∃ i, Owns ρ σ i b
      · rw [g1 b hb] at q; exact .inl q
      · rw [g2 b hb] at q; exact R.fh _ _ q
    · by_cases hb : ∃ i, Owns ρ σ i b
      · obtain ⟨_, _, _, z, _⟩ := cell b hb
        exact .inl z
      · rw [g2 b hb] at q; exact R.fg _ _ q
    · rw [List.getElem?_map] at e
      cases e1 : ρ[i]? with
      | none => rw [e1] at e; cases e
      | some t =>
        rw [e1] at e
        have e : frzS n t = s := Option.some.inj e
        have ok := hs.get e1
        have k := R.sl i t e1
        have at2 := at1 i t e1
        subst e
        cases t with
        | no => trivial
        | fz d => obtain ⟨v, y1, y2⟩ := k; exact ⟨v, y1, y2.mono sm⟩
        | ow xs =>
          obtain ⟨b, o, y1, y2, y3, y4, y5⟩ := k
          cases o <;> first | exact y5.elim | skip
          exact ⟨_, y1, .lst (by rw [at2 b y1]; exact y2) (y5.mono sm)⟩
        | oi c fs =>
          obtain ⟨b, o, y1, y2, y3, y4, y5⟩ := k
          cases o <;> first | exact y5.elim | skip
          obtain ⟨rfl, y5⟩ := y5
          exact ⟨_, y1, .ins (by rw [at2 b y1]; exact y2) (y5.mono sm)⟩
        | od _ => cases ok
        | tr t g =>
          obtain ⟨k1, k2, k3⟩ := k
          have hg : ∀ p, p ∈ g → ∃ vs, F1 p.1 = some (.lst vs) ∧ DatL K F1 vs p.2 := fun p hp => by
            obtain ⟨vs, z1, _, _, z2⟩ := k2.2 p hp
            exact ⟨vs, by rw [at2 p.1 (.inr (List.mem_map_of_mem hp))]; exact z1, z2.mono sm⟩
          cases t with
          | no => cases ok
          | fz _ => cases ok
          | od _ => cases ok
          | tr _ _ => cases ok
          | ow xs =>
            obtain ⟨b, o, y1, y2, y3, y4, y5⟩ := k1
            cases o <;> first | exact y5.elim | skip
            exact ⟨_, y1, .lst (by rw [at2 b (.inl y1)]; exact y2) (fill_datL hg n (y5.mono sm))⟩
          | oi c fs =>
            obtain ⟨b, o, y1, y2, y3, y4, y5⟩ := k1
            cases o <;> first | exact y5.elim | skip
            obtain ⟨rfl, y5⟩ := y5
            exact ⟨_, y1, .ins (by rw [at2 b (.inl y1)]; exact y2) (fill_datF hg n (y5.mono sm))⟩
  refine ⟨F1, sm, R1, fun b hb => ?_, fun F' H' ρ' s1 R2 => ?_⟩
  · obtain ⟨o, z1, _, _, z2⟩ := cell b hb
    exact ⟨o, by rw [g1 b hb]; exact z1, z2⟩
  have s2 : Same F (lessL F' fun b => ∃ i, Owns ρ σ i b) := lessL_same (fun b hb => (cell b hb).choose_spec.2.1) (sm.trans s1)
  refine ⟨s2, fun b o e => R2.fh _ _ (lessL_le e), R2.gh, fun b o e => R2.fg _ _ (lessL_le e), R.len, fun i s e => (R.sl i s e).move s2 fun b hb => ?_, R.nd, R.fix⟩
  have ho : ∃ i, Owns ρ σ i b := ⟨i, s, e, hb⟩
  obtain ⟨o, z1, _, z3, z4⟩ := cell b ho
  refine ⟨lessL_no ho, z3, ?_⟩
  rw [z1]
  exact R2.fh.at (s1 _ _ (by rw [g1 b ho]; exact z1)) fun vs z => by
    subst z
    rcases z4 with ⟨_, z⟩ | ⟨_, _, _, z⟩ <;> cases z
theorem es_snap (n : Nat) (h : ES X fx W e m) : ES X fx W e (mSnap n m) := by
  refine pe_imp h fun σ H Q ⟨F, G, ρ, Q0, X0, R, ⟨hs, h⟩, q, x⟩ => ?_
  obtain ⟨F1, sm, R1, hS1, fin⟩ := R.snap n hs
  refine ⟨F1, G, _, _, _, R1, h, fun r ρ' hr F' H' v s1 R2 k2 => ?_, fun c d ρ' z => z.elim⟩
  have hS : ∀ b, (∃ i, Owns ρ σ i b) → ∃ o, F' b = some o ∧ LI o := fun b hb => by
    obtain ⟨o, z1, z2⟩ := hS1 b hb
    exact ⟨o, s1 _ _ z1, z2⟩
  obtain ⟨s2, back⟩ := fin F' H' ρ' s1 R2
  have own : ∀ s, RvOk X.K F' G H' ρ' σ (.o s) v → (∀ o, OC X.K F' s o → OC X.K (lessL F' fun b => ∃ i, Owns ρ σ i b) s o) → RvOk X.K (lessL F' fun b => ∃ i, Owns ρ σ i b) G H' ρ σ (.o s) v := fun s ⟨y0, b, o, y1, y2, y3, y4, y5, _⟩ k => by
    refine ⟨y0, b, o, y1, y2, lessL_none y3, y4, k o y5, fun i hi => ?_⟩
    obtain ⟨u, z, _⟩ := hS b ⟨i, hi⟩
    rw [y3] at z; cases z
  cases r with
  | sl _ => exact hr.elim
  | gr _ _ => exact hr.elim
  | t _ => exact hr.elim
  | v d =>
    have k2 : Dat X.K F' v d := k2
    exact q _ _ hr.2 _ H' v s2 back (k2.lessP hS hr.1)
  | o s =>
    cases s with
    | no => exact hr.elim
    | fz _ => exact hr.elim
    | od _ => exact hr.elim
    | tr _ _ => exact hr.elim
    | ow xs =>
      refine q _ _ hr.2 _ H' v s2 back (own _ k2 fun o ho => ?_)
      cases o <;> first | exact ho.elim | exact DatL.lessP hS ho hr.1
    | oi c fs =>
      refine q _ _ hr.2 _ H' v s2 back (own _ k2 fun o ho => ?_)
      cases o <;> first | exact ho.elim | exact ⟨ho.1, DatF.lessP hS ho.2 hr.1⟩
/-- a test read so -/
def tSnap (n : Nat) (m : MT) : MT := fun ρ Q X => snapAll ρ ∧ m (ρ.map (frzS n)) (fun b _ => Q b ρ) fun _ _ _ => False
theorem et_snap {mt : MT} (n : Nat) (h : ET X fx W e mt) : ET X fx W e (tSnap n mt) := by
  refine pt_imp h fun σ H Q ⟨F, G, ρ, Q0, X0, R, ⟨hs, h⟩, q, x⟩ => ?_
  obtain ⟨F1, sm, R1, _, fin⟩ := R.snap n hs
  refine ⟨F1, G, _, _, _, R1, h, fun b ρ' hb F' H' s1 R2 => ?_, fun c d ρ' z => z.elim⟩
  obtain ⟨s2, back⟩ := fin F' H' ρ' s1 R2
  exact q _ _ hb _ H' s2 back
/-! ### a fresh tree may be frozen but for its top -/
def mMayT (n : Nat) (m : M) : M := fun ρ Q X => m ρ (fun r ρ1 => Q r ρ1 ∨ match r with
  | .t (.tr (.ow xs) g) => Q (.o (.ow (xs.map (fillD g n)))) ρ1
  | _ => False) X
theorem es_mayT (n : Nat) (h : ES X fx W e m) : ES X fx W e (mMayT n m) := by
  classical
  refine pe_imp h fun σ H Q ⟨F, G, ρ, Q0, X0, R, h, q, x⟩ => ⟨F, G, ρ, _, X0, R, h, fun r ρ1 hr F1 H1 v s1 R1 k1 => ?_, x⟩
  rcases hr with hr | hr
  · exact q _ _ hr F1 H1 v s1 R1 k1
  cases r with
  | v _ => exact hr.elim
  | sl _ => exact hr.elim
  | o _ => exact hr.elim
  | gr _ _ => exact hr.elim
  | t s =>
    cases s with
    | tr s g =>
      cases s with
      | ow xs =>
        have hr : Q0 (.o (.ow (xs.map (fillD g n)))) ρ1 := hr
        obtain ⟨⟨⟨a, o, ea, y1, y2, y3, y4⟩, y5, y6⟩, y7⟩ := k1
        cases ea
        cases o <;> first | exact y4.elim | skip
        rename_i vs
        let F2 : Hp := fun b => if b ∈ g.map (·.1) then H1 b else F1 b
        have g1 : ∀ b, b ∈ g.map (·.1) → F2 b = H1 b := fun b h => if_pos h
        have g2 : ∀ b, b ∉ g.map (·.1) → F2 b = F1 b := fun b h => if_neg h
        have cell : ∀ b, b ∈ g.map (·.1) → ∃ ws, H1 b = some (.lst ws) ∧ F1 b = none ∧ G b = none := fun b h => by
          obtain ⟨p, hp, rfl⟩ := List.mem_map.mp h
          obtain ⟨ws, z1, z2, z3, _⟩ := y5.2 p hp
          exact ⟨ws, z1, z2, z3⟩
        have sm : Same F1 F2 := fun b o q => by
          rw [g2 b fun h => by
            obtain ⟨_, _, z, _⟩ := cell b h
            rw [q] at z; cases z]
          exact q
        have hg : ∀ p, p ∈ g → ∃ vs, F2 p.1 = some (.lst vs) ∧ DatL X.K F2 vs p.2 := fun p hp => by
          obtain ⟨ws, z1, _, _, z4⟩ := y5.2 p hp
          exact ⟨ws, by rw [g1 _ (List.mem_map_of_mem hp)]; exact z1, z4.mono sm⟩
        have na : a ∉ g.map (·.1) := y6 a rfl
        have nown : ∀ b, b ∈ g.map (·.1) → ∀ i, ¬ Owns ρ1 σ i b := fun b hb i => y7 b (.inr hb) i
        have R2 : Rep X.K F2 G H1 fx ρ1 σ := by
          refine ⟨fun b u q => ?_, R1.gh, fun b u q => ?_, R1.len, fun j x q => (R1.sl j x q).move sm fun b hb => ?_, R1.nd, R1.fix⟩
          · by_cases h : b ∈ g.map (·.1)
            · rw [g1 b h] at q; exact .inl q
            · rw [g2 b h] at q; exact R1.fh _ _ q
          · by_cases h : b ∈ g.map (·.1)
            · obtain ⟨_, _, _, z⟩ := cell b h
              exact .inl z
            · rw [g2 b h] at q; exact R1.fg _ _ q
          · obtain ⟨u, z1, z2, z3, _⟩ := (R1.sl j x q).cell hb
            exact ⟨by rw [g2 b fun h => nown b h j ⟨x, q, hb⟩]; exact z2, z3, rfl⟩
        exact q _ _ hr F2 H1 _ (s1.trans sm) R2 ⟨rfl, a, _, rfl, y1, by rw [g2 a na]; exact y2, y3, fill_datL hg n (y4.mono sm), fun i hi => y7 a (.inl rfl) i hi⟩
      | _ => exact hr.elim
    | _ => exact hr.elim
end
end BB

namespace K03
open PySem PySem.Spec PyProof.Rows L2 BB
local macro_rules
  | `(tactic| simp! only [$as,*]) => `(tactic| simp only [onC_s, onD_s, onD_n, onR, bind_v, bind_o, bind_sl, bindRs, setAll, cap_v, cap_ow, cap_oi, cap_od, capS_eq, capS_fz, capS_ow, capS_oi, capS_od, at_v, at_o, rdS_eq, rdS_s, keep_v, keep_sl, keep_ow, keep_oi, keep_od, SV.rd, res_v, res_o, giveBack, lentOf, svS_eq, svS_s, sv_d, keepM, maskOk, ret_v, ret_o, ret_sl, SV.own, mEnd, CIp, opI2, owS_eq, owS_ow, putS_eq, putS_ow, putS_od1, putS_od2, onN_s, D.truth, mVar_eq, varK_fz, varK_ow, varK_oi, varK_od, mC, mOp2, mOp1, fAdd, fI, fSub, fMul, fDiv, fMod, fPow, fNeg, fEq_i, fEq_s, fEq_li, fCmp, fLt, fLe, fGt, fGe, fIsN, mIsN, mChain, mTru, mB, mAnd, mOr, mNot, mAndV, mOrV, fNot, mIf, lNil, lCons, mLst, mTup, oNone, oSome, mSl, fld_eq, sNext, sBreak, sCont, sDrop, sIf, sSet, sRet_eq, retR_v, retR_o, retS_eq, retS_fz, retS_ow, retS_oi, retS_od, sRetN, gN, gN0, gNC, gT, sAsg, rNil, rCons, sPar, iSeq, iRange1, iRange2, iEnumD, sFor, sWhile, kElt, kNext, mLc, mYes, aNil, aCons, aLend_eq, okL_ow, okL_oi, okL_od, mCall, mMeth, mSelf, mProp, mIns, ixA_lst, ixA_scr, ixA_tup, ixA_dicS, ixA_dicI, atI_map, Option.map_some, fLen, fAbs, fInt, fStr, fSum, fAny, fAll, fList, fTuple, fSorted, fMax2, fMin2, fMaxL, fMinL, mOwn_eq, onX_s, pApp, pExt, pPop, pPopAt, pRev, pIns, mMt2, sPut, sAug, sAugIx, mMake, sFldSet, fGet1, mGet1, mGet2, iZip2, fDict, sNever, List.getElem?_cons_zero, List.getElem?_cons_succ, List.set_cons_zero, List.set_cons_succ, List.cons_append, List.nil_append, List.length_cons, List.length_nil, List.replicate, List.map_cons, List.map_nil, if_true, Bool.false_eq_true, if_false, true_and, and_true, List.nodup_nil, List.nodup_cons, List.not_mem_nil, not_false_eq_true, List.length_map, Int.toNat_natCast, Nat.zero_add, sysF_starts, sysF_matrices, sysF_factors, bookF_radix, bookF_kept, tableF_told, tableF_parts, atI_c0, atI_c1, atI_c2, atI_c3, sz0, sz1, sz2, sz3, sz4, sz5, sz6, sz7, Nat.sub_self, atI_c4, mDict0, aKw, pick, List.filterMap_cons, List.filterMap_nil, fRepr, mListZip, mDisp, pdCons, pdNil, iZipS, sRaise, sTry, sufE, mXval, mIsX, mIsXT, onXc, fMulS, mSlR, mEqO, mIsO, onBl, mBor, varK_tr, varK_ti, keep_gr, at_gr, grS_tr, wr_gr, wr_sl, wrL_tr, wrL_ow, mRes, mOwnR, sPutR, kEltT, RV.asTr, okL_tw, okL_ti, retS_tr, retR_t, ret_t, res_t, bind_t, mSnap, snapAll, SV.snapOk, snapR, frzS, D.plain, D.plains, D.plainF, mMayT, tSnap, $as,*])
  | `(tactic| simp! only [$as,*] at $h:ident) => `(tactic| simp only [onC_s, onD_s, onD_n, onR, bind_v, bind_o, bind_sl, bindRs, setAll, cap_v, cap_ow, cap_oi, cap_od, capS_eq, capS_fz, capS_ow, capS_oi, capS_od, at_v, at_o, rdS_eq, rdS_s, keep_v, keep_sl, keep_ow, keep_oi, keep_od, SV.rd, res_v, res_o, giveBack, lentOf, svS_eq, svS_s, sv_d, keepM, maskOk, ret_v, ret_o, ret_sl, SV.own, mEnd, CIp, opI2, owS_eq, owS_ow, putS_eq, putS_ow, putS_od1, putS_od2, onN_s, D.truth, mVar_eq, varK_fz, varK_ow, varK_oi, varK_od, mC, mOp2, mOp1, fAdd, fI, fSub, fMul, fDiv, fMod, fPow, fNeg, fEq_i, fEq_s, fEq_li, fCmp, fLt, fLe, fGt, fGe, fIsN, mIsN, mChain, mTru, mB, mAnd, mOr, mNot, mAndV, mOrV, fNot, mIf, lNil, lCons, mLst, mTup, oNone, oSome, mSl, fld_eq, sNext, sBreak, sCont, sDrop, sIf, sSet, sRet_eq, retR_v, retR_o, retS_eq, retS_fz, retS_ow, retS_oi, retS_od, sRetN, gN, gN0, gNC, gT, sAsg, rNil, rCons, sPar, iSeq, iRange1, iRange2, iEnumD, sFor, sWhile, kElt, kNext, mLc, mYes, aNil, aCons, aLend_eq, okL_ow, okL_oi, okL_od, mCall, mMeth, mSelf, mProp, mIns, ixA_lst, ixA_scr, ixA_tup, ixA_dicS, ixA_dicI, atI_map, Option.map_some, fLen, fAbs, fInt, fStr, fSum, fAny, fAll, fList, fTuple, fSorted, fMax2, fMin2, fMaxL, fMinL, mOwn_eq, onX_s, pApp, pExt, pPop, pPopAt, pRev, pIns, mMt2, sPut, sAug, sAugIx, mMake, sFldSet, fGet1, mGet1, mGet2, iZip2, fDict, sNever, List.getElem?_cons_zero, List.getElem?_cons_succ, List.set_cons_zero, List.set_cons_succ, List.cons_append, List.nil_append, List.length_cons, List.length_nil, List.replicate, List.map_cons, List.map_nil, if_true, Bool.false_eq_true, if_false, true_and, and_true, List.nodup_nil, List.nodup_cons, List.not_mem_nil, not_false_eq_true, List.length_map, Int.toNat_natCast, Nat.zero_add, sysF_starts, sysF_matrices, sysF_factors, bookF_radix, bookF_kept, tableF_told, tableF_parts, atI_c0, atI_c1, atI_c2, atI_c3, sz0, sz1, sz2, sz3, sz4, sz5, sz6, sz7, Nat.sub_self, atI_c4, mDict0, aKw, pick, List.filterMap_cons, List.filterMap_nil, fRepr, mListZip, mDisp, pdCons, pdNil, iZipS, sRaise, sTry, sufE, mXval, mIsX, mIsXT, onXc, fMulS, mSlR, mEqO, mIsO, onBl, mBor, varK_tr, varK_ti, keep_gr, at_gr, grS_tr, wr_gr, wr_sl, wrL_tr, wrL_ow, mRes, mOwnR, sPutR, kEltT, RV.asTr, okL_tw, okL_ti, retS_tr, retR_t, ret_t, res_t, bind_t, mSnap, snapAll, SV.snapOk, snapR, frzS, D.plain, D.plains, D.plainF, mMayT, tSnap, $as,*] at $h:ident)
  | `(tactic| simp! only [$as,*] at $h:ident ⊢) => `(tactic| simp only [onC_s, onD_s, onD_n, onR, bind_v, bind_o, bind_sl, bindRs, setAll, cap_v, cap_ow, cap_oi, cap_od, capS_eq, capS_fz, capS_ow, capS_oi, capS_od, at_v, at_o, rdS_eq, rdS_s, keep_v, keep_sl, keep_ow, keep_oi, keep_od, SV.rd, res_v, res_o, giveBack, lentOf, svS_eq, svS_s, sv_d, keepM, maskOk, ret_v, ret_o, ret_sl, SV.own, mEnd, CIp, opI2, owS_eq, owS_ow, putS_eq, putS_ow, putS_od1, putS_od2, onN_s, D.truth, mVar_eq, varK_fz, varK_ow, varK_oi, varK_od, mC, mOp2, mOp1, fAdd, fI, fSub, fMul, fDiv, fMod, fPow, fNeg, fEq_i, fEq_s, fEq_li, fCmp, fLt, fLe, fGt, fGe, fIsN, mIsN, mChain, mTru, mB, mAnd, mOr, mNot, mAndV, mOrV, fNot, mIf, lNil, lCons, mLst, mTup, oNone, oSome, mSl, fld_eq, sNext, sBreak, sCont, sDrop, sIf, sSet, sRet_eq, retR_v, retR_o, retS_eq, retS_fz, retS_ow, retS_oi, retS_od, sRetN, gN, gN0, gNC, gT, sAsg, rNil, rCons, sPar, iSeq, iRange1, iRange2, iEnumD, sFor, sWhile, kElt, kNext, mLc, mYes, aNil, aCons, aLend_eq, okL_ow, okL_oi, okL_od, mCall, mMeth, mSelf, mProp, mIns, ixA_lst, ixA_scr, ixA_tup, ixA_dicS, ixA_dicI, atI_map, Option.map_some, fLen, fAbs, fInt, fStr, fSum, fAny, fAll, fList, fTuple, fSorted, fMax2, fMin2, fMaxL, fMinL, mOwn_eq, onX_s, pApp, pExt, pPop, pPopAt, pRev, pIns, mMt2, sPut, sAug, sAugIx, mMake, sFldSet, fGet1, mGet1, mGet2, iZip2, fDict, sNever, List.getElem?_cons_zero, List.getElem?_cons_succ, List.set_cons_zero, List.set_cons_succ, List.cons_append, List.nil_append, List.length_cons, List.length_nil, List.replicate, List.map_cons, List.map_nil, if_true, Bool.false_eq_true, if_false, true_and, and_true, List.nodup_nil, List.nodup_cons, List.not_mem_nil, not_false_eq_true, List.length_map, Int.toNat_natCast, Nat.zero_add, sysF_starts, sysF_matrices, sysF_factors, bookF_radix, bookF_kept, tableF_told, tableF_parts, atI_c0, atI_c1, atI_c2, atI_c3, sz0, sz1, sz2, sz3, sz4, sz5, sz6, sz7, Nat.sub_self, atI_c4, mDict0, aKw, pick, List.filterMap_cons, List.filterMap_nil, fRepr, mListZip, mDisp, pdCons, pdNil, iZipS, sRaise, sTry, sufE, mXval, mIsX, mIsXT, onXc, fMulS, mSlR, mEqO, mIsO, onBl, mBor, varK_tr, varK_ti, keep_gr, at_gr, grS_tr, wr_gr, wr_sl, wrL_tr, wrL_ow, mRes, mOwnR, sPutR, kEltT, RV.asTr, okL_tw, okL_ti, retS_tr, retR_t, ret_t, res_t, bind_t, mSnap, snapAll, SV.snapOk, snapR, frzS, D.plain, D.plains, D.plainF, mMayT, tSnap, $as,*] at $h:ident ⊢)
local macro_rules
  | `(tactic| simp_all! only [$as,*]) => `(tactic| simp only [onC_s, onD_s, onD_n, onR, bind_v, bind_o, bind_sl, bindRs, setAll, cap_v, cap_ow, cap_oi, cap_od, capS_eq, capS_fz, capS_ow, capS_oi, capS_od, at_v, at_o, rdS_eq, rdS_s, keep_v, keep_sl, keep_ow, keep_oi, keep_od, SV.rd, res_v, res_o, giveBack, lentOf, svS_eq, svS_s, sv_d, keepM, maskOk, ret_v, ret_o, ret_sl, SV.own, mEnd, CIp, opI2, owS_eq, owS_ow, putS_eq, putS_ow, putS_od1, putS_od2, onN_s, D.truth, mVar_eq, varK_fz, varK_ow, varK_oi, varK_od, mC, mOp2, mOp1, fAdd, fI, fSub, fMul, fDiv, fMod, fPow, fNeg, fEq_i, fEq_s, fEq_li, fCmp, fLt, fLe, fGt, fGe, fIsN, mIsN, mChain, mTru, mB, mAnd, mOr, mNot, mAndV, mOrV, fNot, mIf, lNil, lCons, mLst, mTup, oNone, oSome, mSl, fld_eq, sNext, sBreak, sCont, sDrop, sIf, sSet, sRet_eq, retR_v, retR_o, retS_eq, retS_fz, retS_ow, retS_oi, retS_od, sRetN, gN, gN0, gNC, gT, sAsg, rNil, rCons, sPar, iSeq, iRange1, iRange2, iEnumD, sFor, sWhile, kElt, kNext, mYes, aNil, aCons, aLend_eq, okL_ow, okL_oi, okL_od, mCall, mMeth, mSelf, mProp, mIns, ixA_lst, ixA_scr, ixA_tup, ixA_dicS, ixA_dicI, atI_map, Option.map_some, fLen, fAbs, fInt, fStr, fSum, fAny, fAll, fList, fTuple, fSorted, fMax2, fMin2, fMaxL, fMinL, mOwn_eq, onX_s, pApp, pExt, pPop, pPopAt, pRev, pIns, mMt2, sPut, sAug, sAugIx, mMake, sFldSet, fGet1, mGet1, mGet2, iZip2, fDict, sNever, List.getElem?_cons_zero, List.getElem?_cons_succ, List.set_cons_zero, List.set_cons_succ, List.cons_append, List.nil_append, List.length_cons, List.length_nil, List.replicate, List.map_cons, List.map_nil, if_true, Bool.false_eq_true, if_false, true_and, and_true, List.nodup_nil, List.nodup_cons, List.not_mem_nil, not_false_eq_true, List.length_map, Int.toNat_natCast, Nat.zero_add, sysF_starts, sysF_matrices, sysF_factors, bookF_radix, bookF_kept, tableF_told, tableF_parts, atI_c0, atI_c1, atI_c2, atI_c3, sz0, sz1, sz2, sz3, sz4, sz5, sz6, sz7, Nat.sub_self, atI_c4, mDict0, aKw, pick, List.filterMap_cons, List.filterMap_nil, fRepr, mListZip, mDisp, pdCons, pdNil, iZipS, sRaise, sTry, sufE, mXval, mIsX, mIsXT, onXc, fMulS, mSlR, mEqO, mIsO, onBl, mBor, varK_tr, varK_ti, keep_gr, at_gr, grS_tr, wr_gr, wr_sl, wrL_tr, wrL_ow, mRes, mOwnR, sPutR, kEltT, RV.asTr, okL_tw, okL_ti, retS_tr, retR_t, ret_t, res_t, bind_t, mSnap, snapAll, SV.snapOk, snapR, frzS, D.plain, D.plains, D.plainF, mMayT, tSnap, $as,*])
local macro_rules
  | `(tactic| dsimp! only [$as,*]) => `(tactic| simp only [wipeD, unwipe, List.set_cons_zero, List.set_cons_succ, List.getElem?_cons_zero, List.getElem?_cons_succ, $as,*])
  | `(tactic| dsimp! only [$as,*] at $h:ident) => `(tactic| simp only [wipeD, unwipe, List.set_cons_zero, List.set_cons_succ, List.getElem?_cons_zero, List.getElem?_cons_succ, $as,*] at $h:ident)
  | `(tactic| dsimp! only [$as,*] at $h:ident ⊢) => `(tactic| simp only [wipeD, unwipe, List.set_cons_zero, List.set_cons_succ, List.getElem?_cons_zero, List.getElem?_cons_succ, $as,*] at $h:ident ⊢)
def top (i : Nat) : Stmt := PySem.Challenge.pw_blockbooks_k03_books_refused.main.body.getD i (.Pass ⟨0, 0, 0, 0⟩)
abbrev s__law_pool : Stmt := top 25
abbrev s__law_draw : Stmt := top 26
abbrev s__law_factor : Stmt := top 27
abbrev s__law_pane : Stmt := top 28
abbrev s__law_kind : Stmt := top 29
abbrev s__law_bent : Stmt := top 32
abbrev s__law_due : Stmt := top 31
abbrev s_is_name : Stmt := top 18
abbrev s_check_names : Stmt := top 19
abbrev s_is_square : Stmt := top 20
abbrev s_check_blocks : Stmt := top 21
abbrev s_kept_blocks : Stmt := top 22
abbrev s_Book_init : Stmt := inClass (top 23) 0
abbrev s__law_caught : Stmt := top 30
abbrev s__law_right : Stmt := top 33
abbrev s_law : Stmt := top 34
abbrev P0 : Program := PySem.Challenge.pw_blockbooks_k03_books_refused
structure Txt (K : PySem.W.Frag) (mg : Str → Option Value) where
  a__law_pool : Addr
  u__law_pool : FuncData
  f__law_pool : Fun K "_law_pool" "_law_pool" s__law_pool a__law_pool u__law_pool
  m__law_pool : mg "_law_pool" = some (.ref a__law_pool)
  a__law_draw : Addr
  u__law_draw : FuncData
  f__law_draw : Fun K "_law_draw" "_law_draw" s__law_draw a__law_draw u__law_draw
  m__law_draw : mg "_law_draw" = some (.ref a__law_draw)
  a__law_factor : Addr
  u__law_factor : FuncData
  f__law_factor : Fun K "_law_factor" "_law_factor" s__law_factor a__law_factor u__law_factor
  m__law_factor : mg "_law_factor" = some (.ref a__law_factor)
  a__law_pane : Addr
  u__law_pane : FuncData
  f__law_pane : Fun K "_law_pane" "_law_pane" s__law_pane a__law_pane u__law_pane
  m__law_pane : mg "_law_pane" = some (.ref a__law_pane)
  a__law_kind : Addr
  u__law_kind : FuncData
  f__law_kind : Fun K "_law_kind" "_law_kind" s__law_kind a__law_kind u__law_kind
  m__law_kind : mg "_law_kind" = some (.ref a__law_kind)
  a__law_bent : Addr
  u__law_bent : FuncData
  f__law_bent : Fun K "_law_bent" "_law_bent" s__law_bent a__law_bent u__law_bent
  m__law_bent : mg "_law_bent" = some (.ref a__law_bent)
  a__law_due : Addr
  u__law_due : FuncData
  f__law_due : Fun K "_law_due" "_law_due" s__law_due a__law_due u__law_due
  m__law_due : mg "_law_due" = some (.ref a__law_due)
  a_is_name : Addr
  u_is_name : FuncData
  f_is_name : Fun K "is_name" "is_name" s_is_name a_is_name u_is_name
  m_is_name : mg "is_name" = some (.ref a_is_name)
  a_check_names : Addr
  u_check_names : FuncData
  f_check_names : Fun K "check_names" "check_names" s_check_names a_check_names u_check_names
  m_check_names : mg "check_names" = some (.ref a_check_names)
  a_is_square : Addr
  u_is_square : FuncData
  f_is_square : Fun K "is_square" "is_square" s_is_square a_is_square u_is_square
  m_is_square : mg "is_square" = some (.ref a_is_square)
  a_check_blocks : Addr
  u_check_blocks : FuncData
  f_check_blocks : Fun K "check_blocks" "check_blocks" s_check_blocks a_check_blocks u_check_blocks
  m_check_blocks : mg "check_blocks" = some (.ref a_check_blocks)
  a_kept_blocks : Addr
  u_kept_blocks : FuncData
  f_kept_blocks : Fun K "kept_blocks" "kept_blocks" s_kept_blocks a_kept_blocks u_kept_blocks
  m_kept_blocks : mg "kept_blocks" = some (.ref a_kept_blocks)
  a_Book_init : Addr
  u_Book_init : FuncData
  f_Book_init : Fun K "__init__" "Book.__init__" s_Book_init a_Book_init u_Book_init
  a__law_caught : Addr
  u__law_caught : FuncData
  f__law_caught : Fun K "_law_caught" "_law_caught" s__law_caught a__law_caught u__law_caught
  m__law_caught : mg "_law_caught" = some (.ref a__law_caught)
  a__law_right : Addr
  u__law_right : FuncData
  f__law_right : Fun K "_law_right" "_law_right" s__law_right a__law_right u__law_right
  m__law_right : mg "_law_right" = some (.ref a__law_right)
  a_law : Addr
  u_law : FuncData
  f_law : Fun K "law" "law" s_law a_law u_law
  m_law : mg "law" = some (.ref a_law)
  a_Book : Addr
  c_Book : Cls K a_Book
  m_Book : mg "Book" = some (.ref a_Book)
  k_Book : Mk K a_Book a_Book_init
  a_BlockError : Addr
  m_BlockError : mg "BlockError" = some (.ref a_BlockError)
  a_InvalidBase : Addr
  m_InvalidBase : mg "InvalidBase" = some (.ref a_InvalidBase)
  a_InvalidBlocks : Addr
  m_InvalidBlocks : mg "InvalidBlocks" = some (.ref a_InvalidBlocks)
  a_InvalidName : Addr
  m_InvalidName : mg "InvalidName" = some (.ref a_InvalidName)
  a_InvalidArea : Addr
  m_InvalidArea : mg "InvalidArea" = some (.ref a_InvalidArea)
  a_InvalidLevel : Addr
  m_InvalidLevel : mg "InvalidLevel" = some (.ref a_InvalidLevel)
  a_InvalidNumber : Addr
  m_InvalidNumber : mg "InvalidNumber" = some (.ref a_InvalidNumber)
  a_InvalidPlace : Addr
  m_InvalidPlace : mg "InvalidPlace" = some (.ref a_InvalidPlace)
  a_InvalidRest : Addr
  m_InvalidRest : mg "InvalidRest" = some (.ref a_InvalidRest)
  a_NothingToUndo : Addr
  m_NothingToUndo : mg "NothingToUndo" = some (.ref a_NothingToUndo)
  a_TooWide : Addr
  m_TooWide : mg "TooWide" = some (.ref a_TooWide)
  a_UnlikeBases : Addr
  m_UnlikeBases : mg "UnlikeBases" = some (.ref a_UnlikeBases)
  a_Unreadable : Addr
  m_Unreadable : mg "Unreadable" = some (.ref a_Unreadable)
  a_xi : Addr
  u_xi : FuncData
  xi : ∀ {P : Program} [BX.OkP P0 P] (w : World) (base : Heap), FnOk P w K mg base (L2.CX P w) 1 a_xi u_xi ["self", "value"] (BX.spX K a_BlockError)
  xb : Binds K u_xi ["self", "value"] []
  ti_x : PySem.W.typeIn K (.ref a_xi) = some (.type "function")
  xc_InvalidBase : BX.XCls K a_BlockError a_InvalidBase
  ii_InvalidBase : PySem.W.findIn K (.ref a_InvalidBase) "__init__" = some (some (.ref a_xi))
  xs_InvalidBase : BX.XIs K a_InvalidBase
  ex_InvalidBase : PySem.W.exmOne K (.ref a_InvalidBase) (.ref a_BlockError) = some true
  ko_InvalidBase_InvalidArea : PySem.W.kitOne K (.ref a_InvalidBase) (.ref a_InvalidArea) = some false
  ko_InvalidBase_InvalidLevel : PySem.W.kitOne K (.ref a_InvalidBase) (.ref a_InvalidLevel) = some false
  ko_InvalidBase_InvalidNumber : PySem.W.kitOne K (.ref a_InvalidBase) (.ref a_InvalidNumber) = some false
  ko_InvalidBase_InvalidPlace : PySem.W.kitOne K (.ref a_InvalidBase) (.ref a_InvalidPlace) = some false
  ko_InvalidBase_InvalidRest : PySem.W.kitOne K (.ref a_InvalidBase) (.ref a_InvalidRest) = some false
  ko_InvalidBase_NothingToUndo : PySem.W.kitOne K (.ref a_InvalidBase) (.ref a_NothingToUndo) = some false
  ko_InvalidBase_TooWide : PySem.W.kitOne K (.ref a_InvalidBase) (.ref a_TooWide) = some false
  ko_InvalidBase_UnlikeBases : PySem.W.kitOne K (.ref a_InvalidBase) (.ref a_UnlikeBases) = some false
  ko_InvalidBase_Unreadable : PySem.W.kitOne K (.ref a_InvalidBase) (.ref a_Unreadable) = some false
  ko_InvalidBase_InvalidBase : PySem.W.kitOne K (.ref a_InvalidBase) (.ref a_InvalidBase) = some true
  ko_InvalidBase_InvalidName : PySem.W.kitOne K (.ref a_InvalidBase) (.ref a_InvalidName) = some false
  ko_InvalidBase_InvalidBlocks : PySem.W.kitOne K (.ref a_InvalidBase) (.ref a_InvalidBlocks) = some false
  kv_InvalidBase : PySem.W.kitOne K (.ref a_InvalidBase) (.type "ValueError") = some true
  xc_InvalidBlocks : BX.XCls K a_BlockError a_InvalidBlocks
  ii_InvalidBlocks : PySem.W.findIn K (.ref a_InvalidBlocks) "__init__" = some (some (.ref a_xi))
  xs_InvalidBlocks : BX.XIs K a_InvalidBlocks
  ex_InvalidBlocks : PySem.W.exmOne K (.ref a_InvalidBlocks) (.ref a_BlockError) = some true
  ko_InvalidBlocks_InvalidArea : PySem.W.kitOne K (.ref a_InvalidBlocks) (.ref a_InvalidArea) = some false
  ko_InvalidBlocks_InvalidLevel : PySem.W.kitOne K (.ref a_InvalidBlocks) (.ref a_InvalidLevel) = some false
  ko_InvalidBlocks_InvalidNumber : PySem.W.kitOne K (.ref a_InvalidBlocks) (.ref a_InvalidNumber) = some false
  ko_InvalidBlocks_InvalidPlace : PySem.W.kitOne K (.ref a_InvalidBlocks) (.ref a_InvalidPlace) = some false
  ko_InvalidBlocks_InvalidRest : PySem.W.kitOne K (.ref a_InvalidBlocks) (.ref a_InvalidRest) = some false
  ko_InvalidBlocks_NothingToUndo : PySem.W.kitOne K (.ref a_InvalidBlocks) (.ref a_NothingToUndo) = some false
  ko_InvalidBlocks_TooWide : PySem.W.kitOne K (.ref a_InvalidBlocks) (.ref a_TooWide) = some false
  ko_InvalidBlocks_UnlikeBases : PySem.W.kitOne K (.ref a_InvalidBlocks) (.ref a_UnlikeBases) = some false
  ko_InvalidBlocks_Unreadable : PySem.W.kitOne K (.ref a_InvalidBlocks) (.ref a_Unreadable) = some false
  ko_InvalidBlocks_InvalidBase : PySem.W.kitOne K (.ref a_InvalidBlocks) (.ref a_InvalidBase) = some false
  ko_InvalidBlocks_InvalidName : PySem.W.kitOne K (.ref a_InvalidBlocks) (.ref a_InvalidName) = some false
  ko_InvalidBlocks_InvalidBlocks : PySem.W.kitOne K (.ref a_InvalidBlocks) (.ref a_InvalidBlocks) = some true
  kv_InvalidBlocks : PySem.W.kitOne K (.ref a_InvalidBlocks) (.type "ValueError") = some true
  xc_InvalidName : BX.XCls K a_BlockError a_InvalidName
  ii_InvalidName : PySem.W.findIn K (.ref a_InvalidName) "__init__" = some (some (.ref a_xi))
  xs_InvalidName : BX.XIs K a_InvalidName
  ex_InvalidName : PySem.W.exmOne K (.ref a_InvalidName) (.ref a_BlockError) = some true
  ko_InvalidName_InvalidArea : PySem.W.kitOne K (.ref a_InvalidName) (.ref a_InvalidArea) = some false
  ko_InvalidName_InvalidLevel : PySem.W.kitOne K (.ref a_InvalidName) (.ref a_InvalidLevel) = some false
  ko_InvalidName_InvalidNumber : PySem.W.kitOne K (.ref a_InvalidName) (.ref a_InvalidNumber) = some false
  ko_InvalidName_InvalidPlace : PySem.W.kitOne K (.ref a_InvalidName) (.ref a_InvalidPlace) = some false
  ko_InvalidName_InvalidRest : PySem.W.kitOne K (.ref a_InvalidName) (.ref a_InvalidRest) = some false
  ko_InvalidName_NothingToUndo : PySem.W.kitOne K (.ref a_InvalidName) (.ref a_NothingToUndo) = some false
  ko_InvalidName_TooWide : PySem.W.kitOne K (.ref a_InvalidName) (.ref a_TooWide) = some false
  ko_InvalidName_UnlikeBases : PySem.W.kitOne K (.ref a_InvalidName) (.ref a_UnlikeBases) = some false
  ko_InvalidName_Unreadable : PySem.W.kitOne K (.ref a_InvalidName) (.ref a_Unreadable) = some false
  ko_InvalidName_InvalidBase : PySem.W.kitOne K (.ref a_InvalidName) (.ref a_InvalidBase) = some false
  ko_InvalidName_InvalidName : PySem.W.kitOne K (.ref a_InvalidName) (.ref a_InvalidName) = some true
  ko_InvalidName_InvalidBlocks : PySem.W.kitOne K (.ref a_InvalidName) (.ref a_InvalidBlocks) = some false
  kv_InvalidName : PySem.W.kitOne K (.ref a_InvalidName) (.type "ValueError") = some true
  n_Book_kept : NoAttr K a_Book "kept"
  n_Book_radix : NoAttr K a_Book "radix"
  z_ValueError : mg "ValueError" = none
  z_abs : mg "abs" = none
  z_all : mg "all" = none
  z_enumerate : mg "enumerate" = none
  z_int : mg "int" = none
  z_isinstance : mg "isinstance" = none
  z_len : mg "len" = none
  z_list : mg "list" = none
  z_max : mg "max" = none
  z_min : mg "min" = none
  z_range : mg "range" = none
  z_repr : mg "repr" = none
  z_tuple : mg "tuple" = none
  v_BASES : V
  g_BASES : ∃ u, mg "BASES" = some u ∧ RelV v_BASES u
  d_BASES : ∀ F, Dat K F v_BASES (.tup [.int 2, .int 3])
  v_LETTERS : V
  g_LETTERS : ∃ u, mg "LETTERS" = some u ∧ RelV v_LETTERS u
  d_LETTERS : ∀ F, Dat K F v_LETTERS (.str "abcdefghijklmnopqrstuvwxyz")
section
variable {K : PySem.W.Frag} {mg : Str → Option Value}
def okc (T : Txt K mg) (c : Addr) : Prop := c = T.a_InvalidBase ∨ c = T.a_InvalidBlocks ∨ c = T.a_InvalidName
theorem xis (T : Txt K mg) {c : Addr} (h : okc T c) : BX.XIs K c := by
  rcases h with rfl | rfl | rfl
  · exact T.xs_InvalidBase
  · exact T.xs_InvalidBlocks
  · exact T.xs_InvalidName
theorem okx (T : Txt K mg) (c : Addr) (h : okc T c) : PySem.W.exmOne K (.ref c) (.ref T.a_BlockError) = some true := by
  rcases h with rfl | rfl | rfl
  · exact T.ex_InvalidBase
  · exact T.ex_InvalidBlocks
  · exact T.ex_InvalidName
theorem ka0_InvalidBase (T : Txt K mg) : PySem.W.kitAny K (.ref T.a_InvalidBase) [.ref T.a_InvalidArea, .ref T.a_InvalidLevel, .ref T.a_InvalidNumber, .ref T.a_InvalidPlace, .ref T.a_InvalidRest, .ref T.a_NothingToUndo] = some false := (L2.kitAny_cons T.ko_InvalidBase_InvalidArea (fun _ => (L2.kitAny_cons T.ko_InvalidBase_InvalidLevel (fun _ => (L2.kitAny_cons T.ko_InvalidBase_InvalidNumber (fun _ => (L2.kitAny_cons T.ko_InvalidBase_InvalidPlace (fun _ => (L2.kitAny_cons T.ko_InvalidBase_InvalidRest (fun _ => (L2.kitAny_cons T.ko_InvalidBase_NothingToUndo (fun _ => L2.kitAny_nil) (fun h => by cases h))) (fun h => by cases h))) (fun h => by cases h))) (fun h => by cases h))) (fun h => by cases h))) (fun h => by cases h))
theorem ka0_InvalidBlocks (T : Txt K mg) : PySem.W.kitAny K (.ref T.a_InvalidBlocks) [.ref T.a_InvalidArea, .ref T.a_InvalidLevel, .ref T.a_InvalidNumber, .ref T.a_InvalidPlace, .ref T.a_InvalidRest, .ref T.a_NothingToUndo] = some false := (L2.kitAny_cons T.ko_InvalidBlocks_InvalidArea (fun _ => (L2.kitAny_cons T.ko_InvalidBlocks_InvalidLevel (fun _ => (L2.kitAny_cons T.ko_InvalidBlocks_InvalidNumber (fun _ => (L2.kitAny_cons T.ko_InvalidBlocks_InvalidPlace (fun _ => (L2.kitAny_cons T.ko_InvalidBlocks_InvalidRest (fun _ => (L2.kitAny_cons T.ko_InvalidBlocks_NothingToUndo (fun _ => L2.kitAny_nil) (fun h => by cases h))) (fun h => by cases h))) (fun h => by cases h))) (fun h => by cases h))) (fun h => by cases h))) (fun h => by cases h))
theorem ka0_InvalidName (T : Txt K mg) : PySem.W.kitAny K (.ref T.a_InvalidName) [.ref T.a_InvalidArea, .ref T.a_InvalidLevel, .ref T.a_InvalidNumber, .ref T.a_InvalidPlace, .ref T.a_InvalidRest, .ref T.a_NothingToUndo] = some false := (L2.kitAny_cons T.ko_InvalidName_InvalidArea (fun _ => (L2.kitAny_cons T.ko_InvalidName_InvalidLevel (fun _ => (L2.kitAny_cons T.ko_InvalidName_InvalidNumber (fun _ => (L2.kitAny_cons T.ko_InvalidName_InvalidPlace (fun _ => (L2.kitAny_cons T.ko_InvalidName_InvalidRest (fun _ => (L2.kitAny_cons T.ko_InvalidName_NothingToUndo (fun _ => L2.kitAny_nil) (fun h => by cases h))) (fun h => by cases h))) (fun h => by cases h))) (fun h => by cases h))) (fun h => by cases h))) (fun h => by cases h))
theorem ka1_InvalidBase (T : Txt K mg) : PySem.W.kitAny K (.ref T.a_InvalidBase) [.ref T.a_TooWide, .ref T.a_UnlikeBases, .ref T.a_Unreadable] = some false := (L2.kitAny_cons T.ko_InvalidBase_TooWide (fun _ => (L2.kitAny_cons T.ko_InvalidBase_UnlikeBases (fun _ => (L2.kitAny_cons T.ko_InvalidBase_Unreadable (fun _ => L2.kitAny_nil) (fun h => by cases h))) (fun h => by cases h))) (fun h => by cases h))
theorem ka1_InvalidBlocks (T : Txt K mg) : PySem.W.kitAny K (.ref T.a_InvalidBlocks) [.ref T.a_TooWide, .ref T.a_UnlikeBases, .ref T.a_Unreadable] = some false := (L2.kitAny_cons T.ko_InvalidBlocks_TooWide (fun _ => (L2.kitAny_cons T.ko_InvalidBlocks_UnlikeBases (fun _ => (L2.kitAny_cons T.ko_InvalidBlocks_Unreadable (fun _ => L2.kitAny_nil) (fun h => by cases h))) (fun h => by cases h))) (fun h => by cases h))
theorem ka1_InvalidName (T : Txt K mg) : PySem.W.kitAny K (.ref T.a_InvalidName) [.ref T.a_TooWide, .ref T.a_UnlikeBases, .ref T.a_Unreadable] = some false := (L2.kitAny_cons T.ko_InvalidName_TooWide (fun _ => (L2.kitAny_cons T.ko_InvalidName_UnlikeBases (fun _ => (L2.kitAny_cons T.ko_InvalidName_Unreadable (fun _ => L2.kitAny_nil) (fun h => by cases h))) (fun h => by cases h))) (fun h => by cases h))
end
section
variable {P : Program} [BX.OkP P0 P] {w : World} {K : PySem.W.Frag} {mg : Str → Option Value} {base : Heap}
def fs__law_pool : FS := fun ρ Q _ => ∃ (ns : List Int) (sp : Nat), ρ = [.fz (scrD ns), .fz (.int (sp : Nat))] ∧ (sp ≤ 100 ∧ ns.length ≤ 1000) ∧ ∀ s, PoolAt 0 s → (∀ xs, s = .ow xs → Q (.o (.ow xs)) [.no, .no])
theorem sc__law_pool : FnScope ["script", "spot", "cell"] ["script", "spot"] (defScope s__law_pool) := ⟨rfl, rfl, rfl, by decide +kernel, rfl, by decide +kernel, by decide +kernel⟩
theorem b__law_pool (T : Txt K mg) : Binds K T.u__law_pool ["script", "spot"] [] := T.f__law_pool.binds fun _ _ _ _ _ _ us hl => match us, hl with | [_, _], _ => rfl
theorem ok__law_pool (T : Txt K mg) : FnD P w K mg base 1 T.a__law_pool T.u__law_pool ["script", "spot"] (fs__law_pool) := by
  refine fnd_of T.f__law_pool sc__law_pool [false, false] rfl (fun cdv A outer s H E a hr => (sb_cons (ss_set 2 sc__law_pool.nd es_int)
      (sb_cons (ss_if (et_lt (es_var 1) (es_len T.z_len (es_var 0))) (sb_one (ss_set 2 sc__law_pool.nd (es_ixA (u1 hr) (es_var 0) (es_var 1)))) sb_nil)
      (sb_one (ss_ret (es_lst (el_cons (es_max2 rfl T.z_max es_int (es_sub (es_abs T.z_abs (es_var 2)) (es_pow es_int es_int))) (el_cons (es_add (es_mod (es_intF T.z_int (es_var 2)) es_int) (es_mul es_int (es_add (es_var 1) es_int))) (el_cons es_int el_nil))))))))) (fun ρ Q Xx h => ?_)
  obtain ⟨ns, sp, rfl, ⟨h1, h2⟩, q⟩ := h
  refine ⟨⟨rfl, rfl, trivial⟩, ?_⟩
  refine sseq fun k1 hk1 => ?_
  simp! only []
  refine hk1 _ (sseq fun k2 hk2 => ?_)
  have fin : ∀ c : Int, k2 [.fz (scrD ns), .fz (.int (sp : Nat)), .fz (.int c)] := fun c => by
    refine hk2 _ ?_
    simp! only []
    have hm : CMulW 7368787 ((sp : Int) + 1) := mulW (a := 30) (b := 30) (by decide) (by omega) (by decide)
    obtain ⟨f1, f2⟩ := fmod_rng (i := c) (m := 2305843009213693951) (by decide)
    refine ⟨⟨by decide, by decide⟩, by decide, hm, q _ ⟨_, _, _, rfl, ?_, ?_, ?_, by decide, by decide⟩ _ rfl⟩
    · split <;> omega
    · omega
    · omega
  simp! only []
  by_cases h : ((sp : Int)) < (ns.length : Int)
  · have e : ns[sp]? = some (ns[sp]'(by omega)) := List.getElem?_eq_getElem (by omega)
    simp! only [decide_eq_true h, BB.atI_nat e]
    exact fin _
  · simp! only [decide_eq_false h]
    exact fin _
def fs__law_draw : FS := fun ρ Q _ => ∃ (s : SV) (m c : Int), ρ = [s, .fz (.int m)] ∧ (PoolAt c s ∧ c < 2 ^ 60 ∧ 0 < m ∧ m.natAbs.log2 < 9000) ∧ ∀ r s', 0 ≤ r → r < m → PoolAt (c + 1) s' → Q (.v (.int r)) [s', .no]
theorem sc__law_draw : FnScope ["pool", "many", "drawn", "mixed"] ["pool", "many"] (defScope s__law_draw) := ⟨rfl, rfl, rfl, by decide +kernel, rfl, by decide +kernel, by decide +kernel⟩
theorem b__law_draw (T : Txt K mg) : Binds K T.u__law_draw ["pool", "many"] [] := T.f__law_draw.binds fun _ _ _ _ _ _ us hl => match us, hl with | [_, _], _ => rfl
theorem ok__law_draw (T : Txt K mg) : FnD P w K mg base 1 T.a__law_draw T.u__law_draw ["pool", "many"] (fs__law_draw) := by
  refine fnd_of T.f__law_draw sc__law_draw [true, false] rfl (fun cdv A outer s H E a hr => (sb_cons (ss_if (et_gt (es_ixA (u1 hr) (es_var 0) es_int) es_int) (sb_cons (ss_set 2 sc__law_draw.nd (es_mod (es_intF T.z_int (es_ixA (u1 hr) (es_var 0) es_int)) (es_var 1)))
      (sb_cons (ss_put 0 (u1 hr) (es_div (es_ixA (u1 hr) (es_var 0) es_int) (es_var 1)) es_int)
      (sb_one (ss_ret (es_var 2))))) sb_nil)
      (sb_cons (ss_put 0 (u1 hr) (es_add (es_ixA (u1 hr) (es_var 0) es_int) es_int) es_int)
      (sb_cons (ss_set 3 sc__law_draw.nd (es_mod (es_intF T.z_int (es_pow (es_add (es_ixA (u1 hr) (es_var 0) es_int) (es_mul es_int (es_ixA (u1 hr) (es_var 0) es_int))) es_int)) es_int))
      (sb_cons (ss_set 3 sc__law_draw.nd (es_mod (es_intF T.z_int (es_pow (es_add (es_var 3) (es_mul es_int (es_ixA (u1 hr) (es_var 0) es_int))) es_int)) es_int))
      (sb_one (ss_ret (es_mod (es_intF T.z_int (es_div (es_var 3) es_int)) (es_var 1))))))))) (fun ρ Q Xx h => ?_)
  obtain ⟨s, m, c, rfl, ⟨⟨p0, p1, p2, rfl, h0, h1, h2, h3, h4⟩, h5, h6, h7⟩, q⟩ := h
  refine ⟨⟨rfl, rfl, trivial⟩, ?_⟩
  refine sseq fun k1 hk1 => ?_
  simp! only []
  by_cases h : 0 < p0
  · simp! only [decide_eq_true h]
    refine sseq fun k2 hk2 => ?_
    simp! only []
    refine ⟨by omega, hk2 _ (sseq fun k3 hk3 => ?_)⟩
    simp! only [ix3_0]
    refine ⟨⟨by omega, h7⟩, ⟨_, rfl, rfl⟩, hk3 _ ?_⟩
    simp! only []
    obtain ⟨f1, f2⟩ := fmod_rng (i := p0) h6
    exact q _ _ f1 f2 ⟨_, _, _, rfl, fdiv_rng h0 h6, h1, h2, h3, by omega⟩
  · simp! only [decide_eq_false h]
    refine hk1 _ (sseq fun k2 hk2 => ?_)
    simp! only [ix3_2]
    refine ⟨⟨_, rfl, rfl⟩, hk2 _ (sseq fun k3 hk3 => ?_)⟩
    simp! only []
    have lift : ∀ x : Int, x.natAbs < 2 ^ 120 → x.natAbs < 2 ^ 250 := fun x hx => Nat.lt_of_lt_of_le hx (Nat.pow_le_pow_right (by decide) (by decide))
    refine ⟨mulW (a := 30) (b := 62) (by decide) (by omega) (by decide), cpow3 (lift _ (by omega)), by decide, hk3 _ (sseq fun k4 hk4 => ?_)⟩
    generalize hx : ((p1 + 15485863 * (p2 + 1)) ^ Int.toNat 3).fmod 162259276829213363391578010288127 = x
    obtain ⟨f1, f2⟩ := fmod_rng (i := (p1 + 15485863 * (p2 + 1)) ^ Int.toNat 3) (m := 162259276829213363391578010288127) (by decide)
    rw [hx] at f1 f2
    simp! only []
    refine ⟨mulW (a := 30) (b := 62) (by decide) (by omega) (by decide), cpow3 (lift _ (by omega)), by decide, hk4 _ ?_⟩
    simp! only []
    refine ⟨⟨by decide, by decide⟩, by omega, ?_⟩
    obtain ⟨g1, g2⟩ := fmod_rng (i := (((x + 32452843 * (p2 + 1)) ^ Int.toNat 3).fmod 170141183460469231731687303715884105727).fdiv 1048576) h6
    exact q _ _ g1 g2 ⟨_, _, _, rfl, h0, h1, h2, by omega, by omega⟩
def fs__law_factor : FS := fun ρ Q _ => ∃ (s : SV) (c : Int), ρ = [s] ∧ (PoolAt c s ∧ c < 2 ^ 58) ∧ ∀ (k : Int) s', k.natAbs ≤ 9 → PoolAt (c + 4) s' → Q (.v (.int k)) [s']
theorem sc__law_factor : FnScope ["pool", "small", "great"] ["pool"] (defScope s__law_factor) := ⟨rfl, rfl, rfl, by decide +kernel, rfl, by decide +kernel, by decide +kernel⟩
theorem b__law_factor (T : Txt K mg) : Binds K T.u__law_factor ["pool"] [] := T.f__law_factor.binds fun _ _ _ _ _ _ us hl => match us, hl with | [_], _ => rfl
theorem ok__law_factor (T : Txt K mg) : FnD P w K mg base 2 T.a__law_factor T.u__law_factor ["pool"] (fs__law_factor) := by
  refine fnd_of T.f__law_factor sc__law_factor [true] rfl (fun cdv A outer s H E a hr => (sb_cons (ss_par2 1 2 rfl sc__law_factor.nd (er_cons (es_add es_int (es_call (ok__law_draw (P := P) T) (hr.mono (by decide)) T.m__law_draw T.f__law_draw.kp (b__law_draw T) tk_cx (ea_lend 0 (ea_cons es_int ea_nil)))) (er_cons (es_add es_int (es_call (ok__law_draw (P := P) T) (hr.mono (by decide)) T.m__law_draw T.f__law_draw.kp (b__law_draw T) tk_cx (ea_lend 0 (ea_cons es_int ea_nil)))) er_nil)))
      (sb_one (ss_ret (es_mul (es_ixA (u1 hr) (es_lst (el_cons es_int (el_cons es_int (el_cons (es_var 1) (el_cons (es_var 2) el_nil))))) (es_call (ok__law_draw (P := P) T) (hr.mono (by decide)) T.m__law_draw T.f__law_draw.kp (b__law_draw T) tk_cx (ea_lend 0 (ea_cons es_int ea_nil)))) (es_sub es_int (es_mul es_int (es_call (ok__law_draw (P := P) T) (hr.mono (by decide)) T.m__law_draw T.f__law_draw.kp (b__law_draw T) tk_cx (ea_lend 0 (ea_cons es_int ea_nil)))))))))) (fun ρ Q Xx h => ?_)
  obtain ⟨s, c, rfl, ⟨h1, h2⟩, q⟩ := h
  obtain ⟨p0, p1, p2, rfl, _⟩ := id h1
  refine ⟨⟨rfl, trivial⟩, ?_⟩
  refine sseq fun k1 w1 => ?_
  simp! only []
  refine ⟨_, 3, c, rfl, ⟨h1, by omega, by decide, by decide⟩, fun r s1 r0 r1 hs1 => ?_⟩
  obtain ⟨p0, p1, p2, rfl, _⟩ := id hs1
  simp! only []
  refine ⟨_, 9, c + 1, rfl, ⟨hs1, by omega, by decide, by decide⟩, fun r2 s2 r20 r21 hs2 => ?_⟩
  obtain ⟨p0, p1, p2, rfl, _⟩ := id hs2
  simp! only []
  refine w1 _ ?_
  simp! only []
  refine ⟨_, 4, c + 1 + 1, rfl, ⟨hs2, by omega, by decide, by decide⟩, fun r3 s3 r30 r31 hs3 => ?_⟩
  obtain ⟨p0, p1, p2, rfl, _⟩ := id hs3
  simp! only []
  obtain ⟨v, hv, v0, v9⟩ : ∃ v : Int, atI [D.int 1, D.int 1, D.int (1 + r), D.int (1 + r2)] r3 = some (.int v) ∧ 1 ≤ v ∧ v ≤ 9 := by
    obtain rfl | rfl | rfl | rfl : r3 = 0 ∨ r3 = 1 ∨ r3 = 2 ∨ r3 = 3 := by omega
    · exact ⟨_, atI_c0, by omega, by omega⟩
    · exact ⟨_, atI_c1, by omega, by omega⟩
    · exact ⟨_, atI_c2, by omega, by omega⟩
    · exact ⟨_, atI_c3, by omega, by omega⟩
  simp! only [hv]
  refine ⟨_, 2, c + 1 + 1 + 1, rfl, ⟨hs3, by omega, by decide, by decide⟩, fun r4 s4 r40 r41 hs4 => ?_⟩
  obtain ⟨p0, p1, p2, rfl, _⟩ := id hs4
  simp! only []
  refine ⟨mulW (a := 2) (b := 2) (by decide) (by omega) (by decide), mulW (a := 4) (b := 2) (by omega) (by omega) (by decide), q _ _ ?_ (hs4.mono (by omega))⟩
  obtain rfl | rfl : r4 = 0 ∨ r4 = 1 := by omega
  · omega
  · omega
def fs__law_pane : FS := fun ρ Q _ => ∃ (s : SV) (c : Int) (ns : List Str), ρ = [s, .fz (.lst (ns.map D.str))] ∧ (PoolAt c s ∧ c < 2 ^ 56 ∧ 1 ≤ ns.length ∧ ns.length ≤ 1000) ∧
  ∀ (f : Form) s', f.length ≤ 3 → (∀ k, k ∈ f → k.1.natAbs ≤ 9 ∧ k.2 ∈ ns) → PoolAt (c + 20) s' → Q (.o (.ow (f.map BB.pairD))) [s', .no]
theorem sc__law_pane : FnScope ["pool", "letters", "many", "turn"] ["pool", "letters"] (defScope s__law_pane) := ⟨rfl, rfl, rfl, by decide +kernel, rfl, by decide +kernel, by decide +kernel⟩
theorem b__law_pane (T : Txt K mg) : Binds K T.u__law_pane ["pool", "letters"] [] := T.f__law_pane.binds fun _ _ _ _ _ _ us hl => match us, hl with | [_, _], _ => rfl
theorem ok__law_pane (T : Txt K mg) : FnD P w K mg base 3 T.a__law_pane T.u__law_pane ["pool", "letters"] (fs__law_pane) := by
  refine fnd_of T.f__law_pane sc__law_pane [true, false] rfl (fun cdv A outer s H E a hr => (sb_cons (ss_set 2 sc__law_pane.nd (es_ixA (u1 hr) (es_lst (el_cons es_int (el_cons es_int (el_cons es_int (el_cons es_int (el_cons es_int (el_cons es_int el_nil))))))) (es_call (ok__law_draw (P := P) T) (hr.mono (by decide)) T.m__law_draw T.f__law_draw.kp (b__law_draw T) tk_cx (ea_lend 0 (ea_cons es_int ea_nil)))))
      (sb_one (ss_ret (es_lc1 [("turn", 3)] rfl sc__law_pane.nd (by rfl) (by rfl) (by decide) (ei_range1 T.z_range (el_cons (es_var 2) el_nil)) (fun _ _ _ _ _ => (eg_name 3 sc__law_pane.nd)) (fun _ _ _ _ _ => ets_nil) (fun _ _ _ _ _ => (es_tup (el_cons (es_call (ok__law_factor (P := P) T) (hr.mono (by decide)) T.m__law_factor T.f__law_factor.kp (b__law_factor T) takes0 (ea_lend 0 ea_nil)) (el_cons (es_ixA (u1 hr) (es_var 1) (es_call (ok__law_draw (P := P) T) (hr.mono (by decide)) T.m__law_draw T.f__law_draw.kp (b__law_draw T) takes0 (ea_lend 0 (ea_cons (es_len T.z_len (es_var 1)) ea_nil)))) el_nil))))))))) (fun ρ Q Xx h => ?_)
  obtain ⟨s, c, ns, rfl, ⟨h1, h2, h3, h4⟩, q⟩ := h
  obtain ⟨p0, p1, p2, rfl, _⟩ := id h1
  refine ⟨⟨rfl, rfl, trivial⟩, ?_⟩
  refine sseq fun k1 w1 => ?_
  simp! only []
  refine ⟨_, 6, c, rfl, ⟨h1, by omega, by decide, by decide⟩, fun r s1 r0 r1 hs1 => ?_⟩
  obtain ⟨p0, p1, p2, rfl, _⟩ := id hs1
  obtain ⟨v, hv, v0, v3⟩ : ∃ v : Nat, atI [D.int 0, D.int 1, D.int 1, D.int 2, D.int 2, D.int 3] r = some (.int (v : Nat)) ∧ v ≤ 3 ∧ True := by
    obtain rfl | rfl | rfl | rfl | rfl | rfl : r = 0 ∨ r = 1 ∨ r = 2 ∨ r = 3 ∨ r = 4 ∨ r = 5 := by omega
    · exact ⟨0, atI_c0, by omega, trivial⟩
    · exact ⟨1, atI_c1, by omega, trivial⟩
    · exact ⟨1, atI_c2, by omega, trivial⟩
    · exact ⟨2, atI_c3, by omega, trivial⟩
    · exact ⟨2, atI_c4, by omega, trivial⟩
    · exact ⟨3, BB.atI_nat (u := 5) rfl, by omega, trivial⟩
  simp! only [hv]
  refine w1 _ ?_
  simp! only []
  refine ⟨by omega, ?_⟩
  refine lvl_inv (J := fun i acc ρ => ∃ (s : SV) (f : Form), ρ = [s, .fz (.lst (ns.map D.str)), .fz (.int (v : Nat)), .no] ∧ PoolAt (c + 1 + 5 * i) s ∧ acc = f.map BB.pairD ∧ f.length = i ∧ ∀ k, k ∈ f → k.1.natAbs ≤ 9 ∧ k.2 ∈ ns) 0 ⟨_, [], rfl, hs1.mono (by omega), rfl, rfl, fun k hk => by cases hk⟩ (fun ρ => wipeD_wipeD ρ _) ?_ ?_
  · rintro i x acc ρ hx ⟨s, f, rfl, hs, rfl, hf, hk⟩ kt hkt
    rw [Nat.zero_add] at hs hkt hf
    obtain ⟨hi, rfl⟩ := rangeD_get hx
    obtain ⟨p0, p1, p2, rfl, _⟩ := id hs
    simp! only []
    refine ⟨_, c + 1 + 5 * i, rfl, ⟨hs, by omega⟩, fun k s1 hk9 hs1 => ?_⟩
    obtain ⟨p0, p1, p2, rfl, _⟩ := id hs1
    simp! only []
    refine ⟨_, (ns.length : Int), c + 1 + 5 * i + 4, rfl, ⟨hs1, by omega, by omega, ?_⟩, fun r2 s2 r20 r21 hs2 => ?_⟩
    · rw [Int.natAbs_natCast, Nat.log2_lt (by omega)]
      exact Nat.lt_of_le_of_lt h4 (Nat.lt_of_lt_of_le (by decide : 1000 < 2 ^ 10) (Nat.pow_le_pow_right (by decide) (by decide)))
    obtain ⟨p0, p1, p2, rfl, _⟩ := id hs2
    obtain ⟨j, rfl⟩ := Int.eq_ofNat_of_zero_le r20
    have hj : ns[j]? = some (ns[j]'(by omega)) := List.getElem?_eq_getElem (by omega)
    have hj2 : atI (ns.map D.str) ((j : Nat) : Int) = some (.str (ns[j]'(by omega))) := by rw [atI_map, BB.atI_nat hj]; rfl
    simp! only [hj2]
    refine ⟨by rw [sizeLine_eq]; omega, hkt _ _ ⟨_, f ++ [(k, ns[j]'(by omega))], rfl, hs2.mono (by omega), by rw [List.map_append]; rfl, by rw [List.length_append, hf]; rfl, fun y hy => ?_⟩⟩
    rcases List.mem_append.mp hy with hy | hy
    · exact hk y hy
    · rw [List.mem_singleton.mp hy]
      exact ⟨hk9, List.getElem_mem _⟩
  · rintro acc ρ ⟨s, f, hρ, hs, rfl, hf, hk⟩
    rw [Nat.zero_add, rangeD_len] at hs hf
    rw [hρ]
    dsimp only [unwipe]
    simp! only []
    exact q f s (by omega) hk (hs.mono (by omega))
def fs__law_kind : FS := fun ρ Q _ => ∃ (s : SV) (c : Int) (m : Nat), ρ = [s, .fz (.int (m : Nat))] ∧ (PoolAt c s ∧ c < 2 ^ 54 ∧ 1 ≤ m ∧ m ≤ 6) ∧
  ∀ (b : Nat) (ls : List Line) s', KindOk b ls → ls.length ≤ m → PoolAt (c + 5000) s' → Q (.v (.tup [.int (b : Nat), .lst (ls.map lineL)])) [s', .no]
theorem sc__law_kind : FnScope ["pool", "many", "base_here", "letters", "lines", "letter", "begin", "panes", "down", "along"] ["pool", "many"] (defScope s__law_kind) := ⟨rfl, rfl, rfl, by decide +kernel, rfl, by decide +kernel, by decide +kernel⟩
theorem b__law_kind (T : Txt K mg) : Binds K T.u__law_kind ["pool", "many"] [] := T.f__law_kind.binds fun _ _ _ _ _ _ us hl => match us, hl with | [_, _], _ => rfl
theorem ok__law_kind (T : Txt K mg) : FnD P w K mg base 4 T.a__law_kind T.u__law_kind ["pool", "many"] (fs__law_kind) := by
  refine fnd_of T.f__law_kind sc__law_kind [true, false] rfl (fun cdv A outer s H E a hr => (sb_cons (ss_set 2 sc__law_kind.nd (es_ixA (u1 hr) (es_lst (el_cons es_int (el_cons es_int (el_cons es_int el_nil)))) (es_call (ok__law_draw (P := P) T) (hr.mono (by decide)) T.m__law_draw T.f__law_draw.kp (b__law_draw T) tk_cx (ea_lend 0 (ea_cons es_int ea_nil)))))
      (sb_cons (ss_set 3 sc__law_kind.nd (es_sl (es_lst (el_cons es_str (el_cons es_str (el_cons es_str (el_cons es_str (el_cons es_str (el_cons es_str el_nil))))))) eo_none (eo_some (es_add es_int (es_call (ok__law_draw (P := P) T) (hr.mono (by decide)) T.m__law_draw T.f__law_draw.kp (b__law_draw T) tk_cx (ea_lend 0 (ea_cons (es_if (et_eq (u64 hr) (es_var 2) es_int) (es_var 1) (es_min2 rfl T.z_min (es_var 1) es_int)) ea_nil)))))))
      (sb_cons (ss_set 4 sc__law_kind.nd (es_lst el_nil))
      (sb_cons (ss_for (passes_of rfl) rfl (ei_seq (es_var 3)) (eg_name 5 sc__law_kind.nd) (sb_cons (ss_par2 6 7 rfl sc__law_kind.nd (er_cons (es_ixA (u1 hr) (es_lst (el_cons es_int (el_cons es_int (el_cons es_int (el_cons (es_sub (es_call (ok__law_draw (P := P) T) (hr.mono (by decide)) T.m__law_draw T.f__law_draw.kp (b__law_draw T) tk_cx (ea_lend 0 (ea_cons es_int ea_nil))) es_int) el_nil))))) (es_call (ok__law_draw (P := P) T) (hr.mono (by decide)) T.m__law_draw T.f__law_draw.kp (b__law_draw T) tk_cx (ea_lend 0 (ea_cons es_int ea_nil)))) (er_cons (es_lst el_nil) er_nil)))
      (sb_cons (ss_for (passes_of rfl) rfl (ei_range1 T.z_range (el_cons (es_var 2) el_nil)) (eg_name 8 sc__law_kind.nd) (sb_one (ss_expr (es_append 7 (es_lc1 [("along", 9)] rfl sc__law_kind.nd (by rfl) (by rfl) (by decide) (ei_range1 T.z_range (el_cons (es_var 2) el_nil)) (fun _ _ _ _ _ => (eg_name 9 sc__law_kind.nd)) (fun _ _ _ _ _ => ets_nil) (fun _ _ _ _ _ => (es_call (ok__law_pane (P := P) T) (hr.mono (by decide)) T.m__law_pane T.f__law_pane.kp (b__law_pane T) takes0 (ea_lend 0 (ea_cons (es_var 3) ea_nil)))))))))
      (sb_one (ss_expr (es_insert 4 (es_call (ok__law_draw (P := P) T) (hr.mono (by decide)) T.m__law_draw T.f__law_draw.kp (b__law_draw T) tk_cx (ea_lend 0 (ea_cons (es_add (es_len T.z_len (es_var 4)) es_int) ea_nil))) (es_tup (el_cons (es_var 5) (el_cons (es_var 6) (el_cons (es_var 7) el_nil))))))))))
      (sb_one (ss_ret (es_tup (el_cons (es_var 2) (el_cons (es_var 4) el_nil)))))))))) (fun ρ Q Xx h => ?_)
  obtain ⟨s, c, m, rfl, ⟨h1, h2, h3, h4⟩, q⟩ := h
  obtain ⟨p0, p1, p2, rfl, _⟩ := id h1
  refine ⟨⟨rfl, rfl, trivial⟩, ?_⟩
  refine sseq fun k1 w1 => ?_
  simp! only []
  refine ⟨_, 3, c, rfl, ⟨h1, by omega, by decide, by decide⟩, fun r s1 r0 r1 hs1 => ?_⟩
  obtain ⟨p0, p1, p2, rfl, _⟩ := id hs1
  obtain ⟨b, hv, hb⟩ : ∃ v : Nat, atI [D.int 2, D.int 2, D.int 3] r = some (.int (v : Nat)) ∧ (v = 2 ∨ v = 3) := by
    obtain rfl | rfl | rfl : r = 0 ∨ r = 1 ∨ r = 2 := by omega
    · exact ⟨2, atI_c0, .inl rfl⟩
    · exact ⟨2, atI_c1, .inl rfl⟩
    · exact ⟨3, atI_c2, .inr rfl⟩
  simp! only [hv]
  refine w1 _ (sseq fun k2 w2 => ?_)
  have fin : ∀ (L : List Str) (p0 p1 p2 : Int), (∀ x, x ∈ L → x ∈ sixS) → L.Nodup → 1 ≤ L.length → L.length ≤ m → L.length ≤ 6 → PoolAt (c + 2) (.ow [.int p0, .int p1, .int p2]) →
      k2 [.ow [.int p0, .int p1, .int p2], .fz (.int (m : Nat)), .fz (.int (b : Nat)), .ow (L.map D.str), .no, .no, .no, .no, .no, .no] := fun L p0 p1 p2 hL hn hl1 hlm hl6 hs2 => by
    refine w2 _ (sseq fun k3 w3 => ?_)
    simp! only []
    refine w3 _ (sseq fun k4 w4 => ?_)
    simp! only []
    refine loopD_inv (fun i ρ => ∃ (s : SV) (ls : List Line) (t5 t6 t7 t8 t9 : SV), ρ = [s, .fz (.int (m : Nat)), .fz (.int (b : Nat)), .fz (.lst (L.map D.str)), .ow (ls.map lineL), t5, t6, t7, t8, t9] ∧ PoolAt (c + 2 + 200 * i) s ∧ (nmsOf ls).Perm (L.take i) ∧ ∀ x, x ∈ ls → LineOk b L x) 0 ⟨_, [], _, _, _, _, _, rfl, hs2.mono (by omega), .refl _, fun x hx => by cases hx⟩ ?_ ?_
    · rintro i x ρ hx ⟨s, ls, t5, t6, t7, t8, t9, rfl, hs, hp, hls⟩ kt hk
      rw [Nat.zero_add] at hk hs hp
      obtain ⟨y, hy, hm, rfl⟩ := map_get hx
      have hi : i < L.length := (List.getElem?_eq_some_iff.mp hy).1
      obtain ⟨p0, p1, p2, rfl, _⟩ := id hs
      simp! only []
      refine sseq fun j1 v1 => ?_
      simp! only []
      refine ⟨_, 19, c + 2 + 200 * i, rfl, ⟨hs, by omega, by decide, by decide⟩, fun r3 s3 r30 r31 hs3 => ?_⟩
      obtain ⟨p0, p1, p2, rfl, _⟩ := id hs3
      simp! only []
      refine ⟨_, 4, c + 2 + 200 * i + 1, rfl, ⟨hs3, by omega, by decide, by decide⟩, fun r4 s4 r40 r41 hs4 => ?_⟩
      obtain ⟨p0, p1, p2, rfl, _⟩ := id hs4
      obtain ⟨st, hst, hst9⟩ : ∃ v : Int, atI [D.int 0, D.int 1, D.int 1, D.int (r3 - 9)] r4 = some (.int v) ∧ v.natAbs ≤ 9 := by
        obtain rfl | rfl | rfl | rfl : r4 = 0 ∨ r4 = 1 ∨ r4 = 2 ∨ r4 = 3 := by omega
        · exact ⟨_, atI_c0, by decide⟩
        · exact ⟨_, atI_c1, by decide⟩
        · exact ⟨_, atI_c2, by decide⟩
        · exact ⟨_, atI_c3, by omega⟩
      simp! only [hst]
      refine v1 _ (sseq fun j2 v2 => ?_)
      simp! only []
      refine ⟨by omega, loopD_inv (fun a ρ => ∃ (s : SV) (ps : List (List Form)) (t8 t9 : SV), ρ = [s, .fz (.int (m : Nat)), .fz (.int (b : Nat)), .fz (.lst (L.map D.str)), .ow (ls.map lineL), .fz (.str y), .fz (.int st), .ow (ps.map rowD), t8, t9] ∧
        PoolAt (c + 2 + 200 * i + 2 + 60 * a) s ∧ ps.length = a ∧ ∀ r, r ∈ ps → r.length = b ∧ RowOk b L r) 0 ⟨_, [], _, _, rfl, hs4.mono (by omega), rfl, fun r hr => by cases hr⟩ ?_ ?_⟩
      · rintro a x ρ hx ⟨s, ps, t8, t9, rfl, hs, hps, hrow⟩ kt2 hk2
        rw [Nat.zero_add] at hk2 hs hps
        obtain ⟨ha, rfl⟩ := rangeD_get hx
        have hab : a < b := ha
        obtain ⟨p0, p1, p2, rfl, _⟩ := id hs
        simp! only []
        refine ⟨⟨_, rfl⟩, by omega, ?_⟩
        refine lvl_inv (J := fun e acc ρ => ∃ (s : SV) (fs : List Form), ρ = [s, .fz (.int (m : Nat)), .fz (.int (b : Nat)), .fz (.lst (L.map D.str)), .ow (ls.map lineL), .fz (.str y), .fz (.int st), .ow (ps.map rowD), .fz (.int (0 + (a : Nat))), .no] ∧
          PoolAt (c + 2 + 200 * i + 2 + 60 * a + 20 * e) s ∧ acc = fs.map formL ∧ fs.length = e ∧ RowOk b L fs) 0 ⟨_, [], rfl, hs.mono (by omega), rfl, rfl, fun f hf => by cases hf⟩ (fun ρ => wipeD_wipeD ρ _) ?_ ?_
        · rintro e x acc ρ hx ⟨s, fs, rfl, hs, rfl, hfs, hok⟩ kt3 hk3
          rw [Nat.zero_add] at hs hk3 hfs
          obtain ⟨he, rfl⟩ := rangeD_get hx
          have heb : e < b := he
          obtain ⟨p0, p1, p2, rfl, _⟩ := id hs
          simp! only []
          refine ⟨_, c + 2 + 200 * i + 2 + 60 * a + 20 * e, L, rfl, ⟨hs, by omega, hl1, by omega⟩, fun f s1 hf3 hfk hs1 => ?_⟩
          obtain ⟨p0, p1, p2, rfl, _⟩ := id hs1
          simp! only []
          refine ⟨by rw [sizeLine_eq]; omega, hk3 _ _ ⟨_, fs ++ [f], rfl, hs1.mono (by omega), by rw [List.map_append]; rfl, by rw [List.length_append, hfs]; rfl, fun g hg => ?_⟩⟩
          rcases List.mem_append.mp hg with hg | hg
          · exact hok g hg
          · rw [List.mem_singleton.mp hg]
            exact ⟨by omega, hfk⟩
        · rintro acc ρ ⟨s, fs, hρ, hs, rfl, hfs, hok⟩
          rw [Nat.zero_add, rangeD_len] at hs hfs
          rw [hρ]
          dsimp only [unwipe]
          simp! only []
          refine ⟨by rw [sizeLine_eq]; omega, hk2 _ ⟨_, ps ++ [fs], _, _, by rw [List.map_append]; rfl, hs.mono (by omega), by rw [List.length_append, hps]; rfl, fun r hr => ?_⟩⟩
          rcases List.mem_append.mp hr with hr | hr
          · exact hrow r hr
          · rw [List.mem_singleton.mp hr]
            exact ⟨hfs, hok⟩
      · rintro ρ ⟨s, ps, t8, t9, rfl, hs, hps, hrow⟩
        rw [Nat.zero_add, rangeD_len] at hs hps
        refine v2 _ ?_
        obtain ⟨p0, p1, p2, rfl, _⟩ := id hs
        have hll : ls.length = i := by rw [← nms_len, hp.length_eq, List.length_take]; omega
        simp! only []
        refine ⟨⟨_, rfl⟩, _, ((ls.length : Int) + 1), c + 2 + 200 * i + 2 + 60 * b, rfl, ⟨hs, by omega, by omega, log_len (n := ls.length + 1) (by omega) (by omega)⟩, fun r5 s5 r50 r51 hs5 => ?_⟩
        obtain ⟨p0, p1, p2, rfl, _⟩ := id hs5
        obtain ⟨w, rfl⟩ := Int.eq_ofNat_of_zero_le r50
        simp! only []
        refine ⟨by rw [sizeLine_eq]; omega, by omega, by omega, hk _ ⟨_, ls.take w ++ [(y, st, ps)] ++ ls.drop w, _, _, _, _, _, (by rw [List.map_append, List.map_append, List.map_take, List.map_drop]; rfl), hs5.mono (by omega), ?_, fun z hz => ?_⟩⟩
        · have e1 : nmsOf (ls.take w ++ [(y, st, ps)] ++ ls.drop w) = (nmsOf ls).take w ++ [y] ++ (nmsOf ls).drop w := by
            unfold nmsOf
            rw [List.map_append, List.map_append, List.map_take, List.map_drop]
            rfl
          rw [e1, take_step hy]
          exact (ins_perm _ _ _).trans ((List.Perm.cons y hp).trans (List.perm_append_singleton y _).symm)
        · rcases List.mem_cons.mp ((ins_perm ls w (y, st, ps)).mem_iff.mp hz) with rfl | hz
          · exact ⟨⟨hps, fun r hr => (hrow r hr).1⟩, by simp only; omega, fun r hr => (hrow r hr).2⟩
          · exact hls z hz
    · rintro ρ ⟨s, ls, t5, t6, t7, t8, t9, rfl, hs, hp, hls⟩
      rw [Nat.zero_add, List.length_map] at hs hp
      rw [List.take_length] at hp
      refine w4 _ ?_
      simp! only []
      exact q b ls s (kind_mk hb hp hL hn hl1 hl6 hls) (by rw [← nms_len, hp.length_eq]; exact hlm) (hs.mono (by omega))
  simp! only []
  rcases hb with rfl | rfl
  · rw [if_pos (show decide (((2 : Nat) : Int) = 2) = true by decide)]
    refine ⟨_, (m : Int), c + 1, rfl, ⟨hs1, by omega, by omega, log_len h3 (by omega)⟩, fun r2 s2 r20 r21 hs2 => ?_⟩
    obtain ⟨p0, p1, p2, rfl, _⟩ := id hs2
    obtain ⟨j, rfl⟩ := Int.eq_ofNat_of_zero_le r20
    have e := cut6 (j := j) (by omega)
    simp only [sixS, List.map_cons, List.map_nil] at e
    simp! only [e]
    have l6 : (sixS.take (j + 1)).length = j + 1 := by rw [List.length_take]; show min (j + 1) 6 = j + 1; omega
    exact fin (sixS.take (j + 1)) _ _ _ (fun x hx => List.mem_of_mem_take hx) (six_nodup.sublist (List.take_sublist _ _)) (by omega) (by omega) (by omega) (hs2.mono (by omega))
  · rw [if_neg (show ¬ decide (((3 : Nat) : Int) = 2) = true by decide)]
    refine ⟨_, (if 3 < (m : Int) then 3 else (m : Int)), c + 1, rfl, ⟨hs1, by omega, by split <;> omega, ?_⟩, fun r2 s2 r20 r21 hs2 => ?_⟩
    · split
      · decide
      · exact log_len h3 (by omega)
    obtain ⟨p0, p1, p2, rfl, _⟩ := id hs2
    obtain ⟨j, rfl⟩ := Int.eq_ofNat_of_zero_le r20
    have hj : j < m ∧ j < 3 := by split at r21 <;> omega
    have e := cut6 (j := j) (by omega)
    simp only [sixS, List.map_cons, List.map_nil] at e
    simp! only [e]
    have l6 : (sixS.take (j + 1)).length = j + 1 := by rw [List.length_take]; show min (j + 1) 6 = j + 1; omega
    exact fin (sixS.take (j + 1)) _ _ _ (fun x hx => List.mem_of_mem_take hx) (six_nodup.sublist (List.take_sublist _ _)) (by omega) (by omega) (by omega) (hs2.mono (by omega))
def fs__law_bent : FS := fun ρ Q _ => ∃ (s : SV) (c : Int) (m : Nat) (ls : List Line), ρ = [s, .fz (.lst (ls.map lineL))] ∧ (PoolAt c s ∧ c < 2 ^ 54 ∧ BentOk m ls ∧ m ≤ 7) ∧
  ∀ (ls' : List Line) s', BentOk (m + 1) ls' → PoolAt (c + 100) s' → Q (.o (.ow (ls'.map lineL))) [s', .no]
theorem sc__law_bent : FnScope ["pool", "lines", "found", "at", "letter", "begin", "panes", "way", "line"] ["pool", "lines"] (defScope s__law_bent) := ⟨rfl, rfl, rfl, by decide +kernel, rfl, by decide +kernel, by decide +kernel⟩
theorem b__law_bent (T : Txt K mg) : Binds K T.u__law_bent ["pool", "lines"] [] := T.f__law_bent.binds fun _ _ _ _ _ _ us hl => match us, hl with | [_, _], _ => rfl
theorem ok__law_bent (T : Txt K mg) : FnD P w K mg base 2 T.a__law_bent T.u__law_bent ["pool", "lines"] (fs__law_bent) := by
  refine fnd_of T.f__law_bent sc__law_bent [true, false] rfl (fun cdv A outer s H E a hr => (sb_cons (ss_par2 2 3 rfl sc__law_bent.nd (er_cons (es_list T.z_list (es_var 1)) (er_cons (es_call (ok__law_draw (P := P) T) (hr.mono (by decide)) T.m__law_draw T.f__law_draw.kp (b__law_draw T) tk_cx (ea_lend 0 (ea_cons (es_len T.z_len (es_var 1)) ea_nil))) er_nil)))
      (sb_cons (ss_asg (es_ixA (u1 hr) (es_var 2) (es_var 3)) (eg_tup (n := 3) rfl (egs_cons (eg_name 4 sc__law_bent.nd) (egs_cons (eg_name 5 sc__law_bent.nd) (egs_cons (eg_name 6 sc__law_bent.nd) egs_nil)))))
      (sb_cons (ss_par2 7 6 rfl sc__law_bent.nd (er_cons (es_call (ok__law_draw (P := P) T) (hr.mono (by decide)) T.m__law_draw T.f__law_draw.kp (b__law_draw T) tk_cx (ea_lend 0 (ea_cons es_int ea_nil))) (er_cons (es_lcT [("line", 8)] rfl sc__law_bent.nd (by rfl) (by rfl) (by decide) (ei_seq (es_var 6)) (fun _ _ _ _ _ => (eg_name 8 sc__law_bent.nd)) (fun _ _ _ _ _ => ets_nil) (fun _ _ _ _ _ => (es_list T.z_list (es_var 8)))) er_nil)))
      (sb_may 6 1 (sb_cons (ss_if (et_eq (u64 hr) (es_var 7) es_int) (sb_one (ss_set 4 sc__law_bent.nd (es_ixA (u1 hr) (es_lst (el_cons es_str (el_cons es_str (el_cons es_str (el_cons es_str (el_cons es_str (el_cons (es_ixA (u1 hr) (es_ixA (u1 hr) (es_var 2) es_int) es_int) (el_cons (es_ixA (u1 hr) (es_ixA (u1 hr) (es_var 2) (es_neg es_int)) es_int) el_nil)))))))) (es_call (ok__law_draw (P := P) T) (hr.mono (by decide)) T.m__law_draw T.f__law_draw.kp (b__law_draw T) tk_cx (ea_lend 0 (ea_cons es_int ea_nil)))))) sb_nil)
      (sb_cons (ss_if (et_eq (u64 hr) (es_var 7) es_int) (sb_one (ss_set 6 sc__law_bent.nd (es_sl (es_var 6) eo_none (eo_some (es_neg es_int))))) sb_nil)
      (sb_cons (ss_if (et_eq (u64 hr) (es_var 7) es_int) (sb_one (ss_set 6 sc__law_bent.nd (es_if (et_snap 1 (et_ne (u64 hr) (es_var 6) (es_lst el_nil))) (es_add (es_var 6) (es_lst (el_cons (es_res 6 (es_ixA (u1 hr) (es_var 6) es_int)) el_nil))) (es_lst (el_cons (es_lst el_nil) el_nil))))) sb_nil)
      (sb_cons (ss_if (et_w (ew_and (et_eq (u64 hr) (es_var 7) es_int) (ew_and1 (et_snap 1 (et_ne (u64 hr) (es_var 6) (es_lst el_nil)))))) (sb_one (ss_putR (es_if (et_eq (u64 hr) (es_call (ok__law_draw (P := P) T) (hr.mono (by decide)) T.m__law_draw T.f__law_draw.kp (b__law_draw T) tk_cx (ea_lend 0 (ea_cons es_int ea_nil))) es_int) (es_sl (es_ixA (u1 hr) (es_var 6) (es_neg es_int)) eo_none (eo_some (es_neg es_int))) (es_add (es_ixA (u1 hr) (es_var 6) (es_neg es_int)) (es_lst (el_cons (es_lst el_nil) el_nil)))) (es_var 6) (es_neg es_int))) sb_nil)
      (sb_cons (ss_if (et_w (ew_and (et_eq (u64 hr) (es_var 7) es_int) (ew_and (et_snap 1 (et_ne (u64 hr) (es_var 6) (es_lst el_nil))) (ew_and1 (et_ne (u64 hr) (es_res 6 (es_ixA (u1 hr) (es_var 6) es_int)) (es_lst el_nil)))))) (sb_one (ss_putR (es_add (es_ixA (u1 hr) (es_res 6 (es_ixA (u1 hr) (es_var 6) es_int)) (es_neg es_int)) (es_lst (el_cons (es_tup (el_cons es_int (el_cons (es_ixA (u1 hr) (es_lst (el_cons es_str (el_cons es_str (el_cons es_str el_nil)))) (es_call (ok__law_draw (P := P) T) (hr.mono (by decide)) T.m__law_draw T.f__law_draw.kp (b__law_draw T) tk_cx (ea_lend 0 (ea_cons es_int ea_nil)))) el_nil))) el_nil))) (es_res 6 (es_ixA (u1 hr) (es_var 6) es_int)) (es_neg es_int))) sb_nil)
      (sb_cons (ss_if (et_eq (u64 hr) (es_var 7) es_int) (sb_one (ss_set 6 sc__law_bent.nd (es_lst el_nil))) sb_nil)
      (sb_may 6 1 (sb_cons (ss_put 2 (u1 hr) (es_tup (el_cons (es_var 4) (el_cons (es_var 5) (el_cons (es_var 6) el_nil)))) (es_var 3))
      (sb_one (ss_ret (es_var 2)))))))))))))))) (fun ρ Q Xx h => ?_)
  obtain ⟨s, c, m, ls, rfl, ⟨h1, h2, h3, hm⟩, q⟩ := h
  obtain ⟨p0, p1, p2, rfl, _⟩ := id h1
  refine ⟨⟨rfl, rfl, trivial⟩, ?_⟩
  refine sseq fun k1 w1 => ?_
  simp! only []
  refine ⟨_, _, c, rfl, ⟨h1, by omega, by have := h3.ne; omega, log_len h3.ne (by have := h3.few; omega)⟩, fun r s1 r0 r1 hs1 => ?_⟩
  obtain ⟨q0, q1, q2, rfl, _⟩ := id hs1
  simp! only []
  refine w1 _ (sseq fun k2 w2 => ?_)
  obtain ⟨at', rfl⟩ := Int.eq_ofNat_of_zero_le r0
  have hat : at' < ls.length := by omega
  have hx : ls[at']? = some ls[at'] := List.getElem?_eq_getElem hat
  generalize ls[at'] = x at hx ⊢
  have hmx : x ∈ ls := List.mem_of_getElem? hx
  obtain ⟨nm, bg, rows⟩ := x
  have hb := h3.ln _ hmx
  simp! only [atI_map, BB.atI_nat hx, Option.map_some, lineL]
  refine w2 _ (sseq fun k3 w3 => ?_)
  simp! only []
  refine ⟨_, 7, c + 1, rfl, ⟨hs1, by omega, by decide, by decide⟩, fun way s2 y0 y1 hs2 => ?_⟩
  obtain ⟨q3, q4, q5, rfl, _⟩ := id hs2
  simp! only [mLcT, blocksL]
  have hrs : rows.length ≤ m := hb.rs
  rw [show (rows.map fun l => D.lst (l.map formL)) = (rows.map fun r => r.map formL).map D.lst by rw [List.map_map]; rfl]
  generalize hxss : rows.map (fun r => r.map formL) = xss
  have hxl : xss.length = rows.length := by rw [← hxss, List.length_map]
  refine lvlT_inv (FlatJ xss) 0 (FlatJ.zero xss) ?_ ?_
  · intro i xs hxs acc gg hj kt hk
    rw [Nat.zero_add] at hj hk
    dsimp! only []
    simp! only [kEltT]
    exact ⟨by rw [hj.len, sizeLine_eq]; have := (List.getElem?_eq_some_iff.mp hxs).1; omega, fun a ha => hk _ _ _ (hj.step hxs ha) rfl⟩
  intro acc gg ρ' hj hw
  rw [unw hw]
  simp! only []
  obtain ⟨ps, p1', p2', rfl, rfl⟩ := hj
  rw [Nat.zero_add] at p1' ⊢
  rw [List.take_length]
  have hbs : ∀ rows : List (List Form), (rows.map fun r => r.map formL).map D.lst = rows.map fun r => D.lst (r.map formL) := fun rows => by rw [List.map_map]; rfl
  by_cases y4 : way = 4
  · refine w3 _ (.inl ?_)
    refine sseq fun k4 w4 => ?_
    simp! only [decide_eq_false (show ¬ way = 0 by omega)]
    refine w4 _ (sseq fun k5 w5 => ?_)
    simp! only [decide_eq_false (show ¬ way = 1 by omega)]
    refine w5 _ (sseq fun k6 w6 => ?_)
    simp! only [decide_eq_false (show ¬ way = 2 by omega)]
    refine w6 _ (sseq fun k7 w7 => ?_)
    simp! only [decide_eq_false (show ¬ way = 3 by omega)]
    refine w7 _ (sseq fun k8 w8 => ?_)
    suffices g8 : ∀ (s' : SV) (xs : List D) (gg : GL) (rows' : List (List Form)), PoolAt (c + 10) s' → BLine (m + 1) (nm, bg, rows') → xs.map (fillD gg 1) = rows'.map (fun r => D.lst (r.map formL)) → k8 [s', .fz (.lst (ls.map lineL)), .ow (ls.map lineL), .fz (.int (at' : Nat)), .fz (.str nm), .fz (.int bg), .tr (.ow xs) gg, .fz (.int way), .no] by
      simp! only [decide_eq_true y4, flat_fill p2' p1']
      have ex : xss.map D.lst = rows.map (fun r => D.lst (r.map formL)) := by rw [← hxss]; exact hbs rows
      have skip : k8 [.ow [.int q3, .int q4, .int q5], .fz (.lst (ls.map lineL)), .ow (ls.map lineL), .fz (.int (at' : Nat)), .fz (.str nm), .fz (.int bg), .tr (.ow (ps.map D.adr)) (ps.zip xss), .fz (.int way), .no] :=
        g8 _ _ _ rows (hs2.mono (by omega)) (hb.mono (Nat.le_succ _)) (by rw [flat_fill p2' p1']; exact ex)
      rw [ex, fEq_rowsN fun r hr f hf c hc => ((hb.fm r hr f hf).2 c hc).2.1]
      cases rows with
      | nil =>
        simp! only [decide_true, Bool.not_true]
        exact skip
      | cons r0 rs =>
        cases ps with
        | nil => rw [← hxss] at p1'; cases p1'
        | cons p0 ps =>
        have lk : ((p0 :: ps).zip xss).lookup p0 = some (r0.map formL) := zip_look (j := 0) p2' rfl (by rw [← hxss]; rfl)
        have h0 := List.mem_cons_self (a := r0) (l := rs)
        simp! only [List.cons_ne_nil, decide_false, Bool.not_false, lk]
        rw [fEq_formsN fun f hf c hc => ((hb.fm r0 h0 f hf).2 c hc).2.1]
        by_cases hr0 : r0 = []
        · simp! only [decide_eq_true hr0, Bool.not_true]
          exact skip
        · have hl3 : 1 ≤ r0.length := List.length_pos_iff.mpr hr0
          have lz : r0[r0.length - 1]? = some (r0[r0.length - 1]'(by omega)) := List.getElem?_eq_getElem (by omega)
          have mz := List.mem_of_getElem? lz
          generalize (r0[r0.length - 1]'(by omega)) = LZ at lz mz
          have az : atI r0 (-1) = some LZ := atI_last hl3 lz
          simp! only [decide_eq_false hr0, Bool.not_false, fIxA, fIx, az, Option.map_some, formL]
          refine ⟨_, 3, c + 2, rfl, ⟨hs2.mono (by omega), by omega, by decide, by decide⟩, fun u s3 u0 u1 hs3 => ?_⟩
          obtain ⟨q6, q7, q8, rfl, _⟩ := id hs3
          obtain ⟨z, ez, nz⟩ : ∃ z, atI [D.str (Str.ofString "z"), D.str (Str.ofString ""), D.str (Str.ofString "tt")] u = some (.str z) ∧ NmOk z := by
            obtain rfl | rfl | rfl : u = 0 ∨ u = 1 ∨ u = 2 := by omega
            · exact ⟨_, rfl, oks (by decide +kernel), by decide, by decide⟩
            · exact ⟨_, rfl, oks (by decide +kernel), by decide, by decide⟩
            · exact ⟨_, rfl, oks (by decide +kernel), by decide, by decide⟩
          obtain ⟨flz, fkz⟩ := hb.fm r0 h0 LZ mz
          have r0m : r0.length ≤ m := hb.rw r0 h0
          have hrs' : rs.length + 1 ≤ m + 1 := Nat.le_succ_of_le hrs
          simp! only [fIxA, fIx, ez, atI_c0, lk, wrS_tr lk, ixN_last hl3]
          refine ⟨by rw [sizeLine_eq]; omega, ?_⟩
          have e5 : (r0.map formL).set (r0.length - 1) (D.lst (LZ.map BB.pairD ++ [D.tup [D.int 1, D.str z]])) = (r0.set (r0.length - 1) (LZ ++ [(1, z)])).map formL := by
            rw [List.map_set]
            congr 1
            show _ = D.lst _
            rw [List.map_append]
            rfl
          rw [e5, zip_set (j := 0) p2' p1' rfl]
          refine g8 _ _ _ ((r0.set (r0.length - 1) (LZ ++ [(1, z)])) :: rs) (hs3.mono (by omega)) (hb.rows (Nat.le_succ _) hrs' fun r hr => ?_) ?_
          · rcases List.mem_cons.mp hr with rfl | hr
            · refine .inr ⟨by rw [List.length_set]; omega, fun f hf => ?_⟩
              rcases List.mem_or_eq_of_mem_set hf with hf | rfl
              · exact ⟨Nat.le_succ_of_le (hb.fm r0 h0 f hf).1, (hb.fm r0 h0 f hf).2⟩
              · refine ⟨by rw [List.length_append]; exact Nat.succ_le_succ flz, fun k hk => ?_⟩
                rcases List.mem_append.mp hk with hk | hk
                · exact fkz k hk
                · rw [List.mem_singleton.mp hk]; exact ⟨show ((1 : Int)).natAbs ≤ 9 by decide, nz⟩
            · exact .inl (List.mem_cons_of_mem _ hr)
          · have hl6 : (p0 :: ps).length = (xss.set 0 ((r0.set (r0.length - 1) (LZ ++ [(1, z)])).map formL)).length := by rw [List.length_set]; exact p1'
            refine (flat_fill p2' hl6).trans ?_
            rw [← hxss, List.map_cons, List.set_cons_zero, List.map_cons, List.map_cons, hbs]
    intro s' xs gg rows' hs' hb' hfill
    obtain ⟨q6, q7, q8, rfl, _⟩ := id hs'
    refine w8 _ (sseq fun k9 w9 => ?_)
    simp! only [decide_eq_false (show ¬ way = 5 by omega)]
    refine w9 _ (.inr ?_)
    simp! only [sThin, hfill]
    refine sseq fun k10 w10 => ?_
    have e1 : (ls.map lineL).set at' (D.tup [D.str nm, D.int bg, D.lst (rows'.map fun r => D.lst (r.map formL))]) = (ls.set at' (nm, bg, rows')).map lineL := by rw [List.map_set]; rfl
    simp! only [ixN_of hat]
    refine ⟨⟨_, rfl, rfl⟩, w10 _ ?_⟩
    rw [e1]
    simp! only []
    exact q _ _ (h3.put (Nat.le_succ m) hb' at') (hs'.mono (by omega))
  · refine w3 _ (.inr ?_)
    simp! only [sThin, flat_fill p2' p1']
    rw [← hxss, hbs]
    clear hxss hxl p1' p2' hw
    refine sseq fun k4 w4 => ?_
    suffices g4 : ∀ (s' : SV) (nm' : Str), PoolAt (c + 10) s' → NmOk nm' → k4 [s', .fz (.lst (ls.map lineL)), .ow (ls.map lineL), .fz (.int (at' : Nat)), .fz (.str nm'), .fz (.int bg), .ow (rows.map fun r => D.lst (r.map formL)), .fz (.int way), .no] by
      simp! only []
      by_cases y0 : way = 0
      · have hne := h3.ne
        have l0 : ls[0]? = some (ls[0]'(by omega)) := List.getElem?_eq_getElem (by omega)
        have n0 := (h3.ln _ (List.mem_of_getElem? l0)).nm
        generalize (ls[0]'(by omega)) = L0 at l0 n0
        have lz : ls[ls.length - 1]? = some (ls[ls.length - 1]'(by omega)) := List.getElem?_eq_getElem (by omega)
        have nz := (h3.ln _ (List.mem_of_getElem? lz)).nm
        generalize (ls[ls.length - 1]'(by omega)) = LZ at lz nz
        have a0 : atI ls 0 = some L0 := BB.atI_nat (u := 0) l0
        have az : atI ls (-1) = some LZ := atI_last (by omega) lz
        simp! only [decide_eq_true y0, a0, Option.map_some, lineL, fIxA, fIx, az]
        refine ⟨_, 7, c + 2, rfl, ⟨hs2.mono (by omega), by omega, by decide, by decide⟩, fun u s3 u0 u1 hs3 => ?_⟩
        obtain ⟨q6, q7, q8, rfl, _⟩ := id hs3
        simp! only []
        obtain ⟨z, ez, nz⟩ : ∃ z, atI [D.str (Str.ofString ""), D.str (Str.ofString "st"), D.str (Str.ofString "S"), D.str (Str.ofString " "), D.str (Str.ofString "1"), D.str L0.1, D.str LZ.1] u = some (.str z) ∧ NmOk z := by
          obtain rfl | rfl | rfl | rfl | rfl | rfl | rfl : u = 0 ∨ u = 1 ∨ u = 2 ∨ u = 3 ∨ u = 4 ∨ u = 5 ∨ u = 6 := by omega
          · exact ⟨_, rfl, oks (by decide +kernel), by decide, by decide⟩
          · exact ⟨_, rfl, oks (by decide +kernel), by decide, by decide⟩
          · exact ⟨_, rfl, oks (by decide +kernel), by decide, by decide⟩
          · exact ⟨_, rfl, oks (by decide +kernel), by decide, by decide⟩
          · exact ⟨_, rfl, oks (by decide +kernel), by decide, by decide⟩
          · exact ⟨_, rfl, n0⟩
          · exact ⟨_, rfl, nz⟩
        simp! only [fIxA, fIx, ez]
        exact g4 _ _ (hs3.mono (by omega)) nz
      · simp! only [decide_eq_false y0]
        exact g4 _ _ (hs2.mono (by omega)) hb.nm
    intro s' nm' hs' hnm
    obtain ⟨q6, q7, q8, rfl, _⟩ := id hs'
    refine w4 _ (sseq fun k5 w5 => ?_)
    suffices g5 : ∀ (rows' : List (List Form)), BLine (m + 1) (nm', bg, rows') → (way ≠ 1 → BLine m (nm', bg, rows')) → k5 [.ow [.int q6, .int q7, .int q8], .fz (.lst (ls.map lineL)), .ow (ls.map lineL), .fz (.int (at' : Nat)), .fz (.str nm'), .fz (.int bg), .ow (rows'.map fun r => D.lst (r.map formL)), .fz (.int way), .no] by
      simp! only []
      by_cases y1 : way = 1
      · simp! only [decide_eq_true y1]
        rw [cut_last, dropLast_map]
        refine g5 _ ((hb.named hnm).rows (Nat.le_succ _) (by rw [List.length_dropLast]; omega) fun r hr => .inl (List.dropLast_subset _ hr)) fun z => absurd y1 z
      · simp! only [decide_eq_false y1]
        exact g5 _ ((hb.named hnm).mono (Nat.le_succ _)) fun _ => hb.named hnm
    intro rows1 hb1 hc1
    refine w5 _ (sseq fun k6 w6 => ?_)
    have oknm : ∀ rows : List (List Form), BLine (m + 1) (nm', bg, rows) → ∀ r, r ∈ rows → ∀ f, f ∈ r → ∀ c, c ∈ f → OkS c.2 := fun rows h r hr f hf c hc => ((h.fm r hr f hf).2 c hc).2.1
    suffices g6 : ∀ (rows' : List (List Form)), BLine (m + 1) (nm', bg, rows') → (way = 3 → BLine m (nm', bg, rows')) → k6 [.ow [.int q6, .int q7, .int q8], .fz (.lst (ls.map lineL)), .ow (ls.map lineL), .fz (.int (at' : Nat)), .fz (.str nm'), .fz (.int bg), .ow (rows'.map fun r => D.lst (r.map formL)), .fz (.int way), .no] by
      simp! only []
      by_cases y2 : way = 2
      · simp! only [decide_eq_true y2]
        rw [fEq_rowsN (oknm rows1 hb1)]
        have hc2 := hc1 (by omega)
        have hl1 : rows1.length ≤ m := hc2.rs
        cases rows1 with
        | nil =>
          simp! only [decide_true, Bool.not_true]
          exact g6 [[]] (hb1.rows (Nat.le_refl _) (show 1 ≤ m + 1 by omega) fun r hr => .inr (by rw [List.mem_singleton.mp hr]; exact ⟨Nat.zero_le _, fun f hf => nomatch hf⟩)) fun z => by omega
        | cons r0 rs =>
          have hl9 : rs.length + 1 ≤ m := hl1
          simp! only [List.cons_ne_nil, decide_false, Bool.not_false]
          refine ⟨by rw [sizeLine_eq]; omega, ?_⟩
          have := g6 (r0 :: rs ++ [r0]) (hc2.rows (Nat.le_succ _) (by simp; omega) fun r hr => .inl (by
            rcases List.mem_append.mp hr with hr | hr
            · exact hr
            · rw [List.mem_singleton.mp hr]; exact List.mem_cons_self)) fun z => by omega
          rw [List.map_append] at this
          exact this
      · simp! only [decide_eq_false y2]
        exact g6 _ hb1 fun z => hc1 (by omega)
    intro rows2 hb2 hc2
    clear hb1 hc1 rows1
    refine w6 _ (sseq fun k7 w7 => ?_)
    suffices g7 : ∀ (s' : SV) (rows' : List (List Form)), PoolAt (c + 20) s' → BLine (m + 1) (nm', bg, rows') → k7 [s', .fz (.lst (ls.map lineL)), .ow (ls.map lineL), .fz (.int (at' : Nat)), .fz (.str nm'), .fz (.int bg), .ow (rows'.map fun r => D.lst (r.map formL)), .fz (.int way), .no] by
      simp! only []
      by_cases y3 : way = 3
      · simp! only [decide_eq_true y3]
        rw [fEq_rowsN (oknm rows2 hb2)]
        have hc3 := hc2 y3
        have hl2 : rows2.length ≤ m := hc3.rs
        by_cases hn : rows2 = []
        · subst hn
          simp! only [decide_true, Bool.not_true]
          exact g7 _ _ (hs'.mono (by omega)) hb2
        · simp! only [decide_eq_false hn, Bool.not_false]
          refine ⟨_, 2, c + 11, rfl, ⟨hs'.mono (by omega), by omega, by decide, by decide⟩, fun u s3 u0 u1 hs3 => ?_⟩
          obtain ⟨z6, z7, z8, rfl, _⟩ := id hs3
          have hl3 : 1 ≤ rows2.length := List.length_pos_iff.mpr hn
          have lz : rows2[rows2.length - 1]? = some (rows2[rows2.length - 1]'(by omega)) := List.getElem?_eq_getElem (by omega)
          have mz := List.mem_of_getElem? lz
          generalize (rows2[rows2.length - 1]'(by omega)) = LZ at lz mz
          have az : atI rows2 (-1) = some LZ := atI_last hl3 lz
          simp! only [az, ixN_last hl3, Option.map_some]
          have put : ∀ LY : List Form, (LY.length ≤ m + 1 ∧ ∀ f, f ∈ LY → f.length ≤ m + 1 ∧ ∀ k, k ∈ f → k.1.natAbs ≤ 9 ∧ NmOk k.2) → k7 [.ow [.int z6, .int z7, .int z8], .fz (.lst (ls.map lineL)), .ow (ls.map lineL), .fz (.int (at' : Nat)), .fz (.str nm'), .fz (.int bg), .ow ((rows2.map fun r => D.lst (r.map formL)).set (rows2.length - 1) (.lst (LY.map formL))), .fz (.int way), .no] := fun LY hLY => by
            rw [show D.lst (LY.map formL) = (fun r : List Form => D.lst (r.map formL)) LY from rfl, ← List.map_set]
            refine g7 _ _ (hs3.mono (by omega)) (hc3.rows (Nat.le_succ _) (by rw [List.length_set]; omega) fun r hr => ?_)
            rcases List.mem_or_eq_of_mem_set hr with hr | rfl
            · exact .inl hr
            · exact .inr hLY
          have fz := hc3.fm LZ mz
          have rz := hc3.rw LZ mz
          by_cases hu : u = 0
          · simp! only [decide_eq_true hu]
            rw [cut_last, dropLast_map]
            exact put _ ⟨by rw [List.length_dropLast]; omega, fun f hf => ⟨Nat.le_succ_of_le (fz f (List.dropLast_subset _ hf)).1, (fz f (List.dropLast_subset _ hf)).2⟩⟩
          · simp! only [decide_eq_false hu]
            refine ⟨by rw [sizeLine_eq]; omega, ?_⟩
            have := put (LZ ++ [[]]) ⟨by rw [List.length_append]; exact Nat.succ_le_succ rz, fun f hf => by
              rcases List.mem_append.mp hf with hf | hf
              · exact ⟨Nat.le_succ_of_le (fz f hf).1, (fz f hf).2⟩
              · rw [List.mem_singleton.mp hf]; exact ⟨Nat.zero_le _, fun k hk => nomatch hk⟩⟩
            rw [List.map_append] at this
            exact this
      · simp! only [decide_eq_false y3]
        exact g7 _ _ (hs'.mono (by omega)) hb2
    clear hs' hb2 hc2 rows2
    intro s' rows3 hs' hb3
    obtain ⟨q6, q7, q8, rfl, _⟩ := id hs'
    refine w7 _ (sseq fun k8 w8 => ?_)
    simp! only [decide_eq_false y4]
    refine w8 _ (sseq fun k9 w9 => ?_)
    suffices g9 : ∀ (rows' : List (List Form)), BLine (m + 1) (nm', bg, rows') → k9 [.ow [.int q6, .int q7, .int q8], .fz (.lst (ls.map lineL)), .ow (ls.map lineL), .fz (.int (at' : Nat)), .fz (.str nm'), .fz (.int bg), .ow (rows'.map fun r => D.lst (r.map formL)), .fz (.int way), .no] by
      simp! only []
      by_cases y5 : way = 5
      · simp! only [decide_eq_true y5]
        exact g9 [] (hb3.rows (Nat.le_refl _) (Nat.zero_le _) fun r hr => nomatch hr)
      · simp! only [decide_eq_false y5]
        exact g9 _ hb3
    intro rows4 hb4
    refine w9 _ (.inl ?_)
    refine sseq fun k10 w10 => ?_
    have e1 : (ls.map lineL).set at' (D.tup [D.str nm', D.int bg, D.lst (rows4.map fun r => D.lst (r.map formL))]) = (ls.set at' (nm', bg, rows4)).map lineL := by rw [List.map_set]; rfl
    simp! only [ixN_of hat]
    refine ⟨⟨_, rfl, rfl⟩, w10 _ ?_⟩
    rw [e1]
    simp! only []
    exact q _ _ (h3.put (Nat.le_succ m) hb4 at') (hs'.mono (by omega))
def fs__law_due : FS := fun ρ Q _ => ∃ (b : Int) (ls : List Line), ρ = [.fz (.int b), .fz (.lst (ls.map lineL))] ∧ Tame ls ∧ Q (.o (.ow (due3 b ls))) [.no, .no]
theorem sc__law_due : FnScope ["base_here", "lines", "letters", "line", "spot", "letter", "begin", "panes", "odd", "pane", "foreign", "often", "other"] ["base_here", "lines"] (defScope s__law_due) := ⟨rfl, rfl, rfl, by decide +kernel, rfl, by decide +kernel, by decide +kernel⟩
theorem b__law_due (T : Txt K mg) : Binds K T.u__law_due ["base_here", "lines"] [] := T.f__law_due.binds fun _ _ _ _ _ _ us hl => match us, hl with | [_, _], _ => rfl
theorem ok__law_due (T : Txt K mg) : FnD P w K mg base 1 T.a__law_due T.u__law_due ["base_here", "lines"] (fs__law_due) := by
  refine fnd_of T.f__law_due sc__law_due [false, false] rfl (fun cdv A outer s H E a hr => (sb_cons (ss_if (et_notin (u65 hr) (es_var 0) (es_tup (el_cons es_int (el_cons es_int el_nil)))) (sb_one (ss_ret (es_lst (el_cons es_str (el_cons (es_var 0) el_nil))))) sb_nil)
      (sb_cons (ss_set 2 sc__law_due.nd (es_lc1 [("line", 3)] rfl sc__law_due.nd (by rfl) (by rfl) (by decide) (ei_seq (es_var 1)) (fun _ _ _ _ _ => (eg_name 3 sc__law_due.nd)) (fun _ _ _ _ _ => ets_nil) (fun _ _ _ _ _ => (es_ixA (u1 hr) (es_var 3) es_int))))
      (sb_cons (ss_for (passes_of rfl) rfl (ei_enum T.z_enumerate (el_cons (es_var 2) el_nil)) (eg_tup (n := 2) rfl (egs_cons (eg_name 4 sc__law_due.nd) (egs_cons (eg_name 5 sc__law_due.nd) egs_nil))) (sb_one (ss_if (et_w (ew_or (et_ne (u64 hr) (es_len T.z_len (es_var 5)) es_int) (ew_or (et_notin (u65 hr) (es_var 5) es_str) (ew_or1 (et_in (u65 hr) (es_var 5) (es_sl (es_var 2) eo_none (eo_some (es_var 4)))))))) (sb_one (ss_ret (es_lst (el_cons es_str (el_cons (es_var 5) el_nil))))) sb_nil)))
      (sb_cons (ss_for (passes_of rfl) rfl (ei_seq (es_var 1)) (eg_tup (n := 3) rfl (egs_cons (eg_name 5 sc__law_due.nd) (egs_cons (eg_name 6 sc__law_due.nd) (egs_cons (eg_name 7 sc__law_due.nd) egs_nil)))) (sb_cons (ss_set 8 sc__law_due.nd (es_or (es_ne (u64 hr) (es_len T.z_len (es_var 7)) (es_var 0)) (es_one (es_ne (u64 hr) (es_lc1 [("line", 3)] rfl sc__law_due.nd (by rfl) (by rfl) (by decide) (ei_seq (es_var 7)) (fun _ _ _ _ _ => (eg_name 3 sc__law_due.nd)) (fun _ _ _ _ _ => (ets_one (et_ne (u64 hr) (es_len T.z_len (es_var 3)) (es_var 0)))) (fun _ _ _ _ _ => (es_var 3))) (es_lst el_nil)))))
      (sb_cons (ss_for (passes_of rfl) rfl (ei_seq (es_var 7)) (eg_name 3 sc__law_due.nd) (sb_one (ss_for (passes_of rfl) rfl (ei_seq (es_var 3)) (eg_name 9 sc__law_due.nd) (sb_cons (ss_setLc1 [("often", 11), ("other", 12)] 10 rfl sc__law_due.nd (by rfl) (by rfl) (by decide) (ei_seq (es_var 9)) (fun _ _ _ _ _ => (eg_tup (n := 2) rfl (egs_cons (eg_name 11 sc__law_due.nd) (egs_cons (eg_name 12 sc__law_due.nd) egs_nil)))) (fun _ _ _ _ _ => (ets_one (et_notin (u65 hr) (es_var 12) (es_var 2)))) (fun _ _ _ _ _ => (es_var 12)) (by rfl))
      (sb_one (ss_set 8 sc__law_due.nd (es_or (es_var 8) (es_one (es_ne (u64 hr) (es_var 10) (es_lst el_nil))))))))))
      (sb_one (ss_if (et_val (es_var 8)) (sb_one (ss_ret (es_lst (el_cons es_str (el_cons (es_var 5) el_nil))))) sb_nil)))))
      (sb_one (ss_ret (es_lst el_nil)))))))) (fun ρ Q Xx h => ?_)
  obtain ⟨b, ls, rfl, h1, q⟩ := h
  refine ⟨⟨rfl, rfl, trivial⟩, ?_⟩
  have hn := h1.few
  refine sseq fun k1 hk1 => ?_
  simp! only []
  by_cases hb : b = 2 ∨ b = 3
  · rw [fIn_base hb]
    simp! only []
    refine hk1 _ (sseq fun k2 hk2 => ?_)
    simp! only []
    unfold due3 at q
    rw [if_pos hb] at q
    refine lvl_mapS (l := ls) (enc := lineL) (fun x => .str x.1) (by rw [List.length_nil, sizeLine_eq]; omega) ?_ ?_
    · intro x hx acc hl kt hk
      dsimp! only []
      simp! only [lineL]
      exact ⟨hl, hk _ rfl⟩
    intro ρ' hw
    rw [unw hw, List.nil_append, nms_map]
    simp! only []
    refine hk2 _ (sseq fun k3 hk3 => ?_)
    simp! only []
    refine loopD_inv (fun i ρ => (∃ t4 t5, ρ = [.fz (.int b), .fz (.lst (ls.map lineL)), .fz (.lst ((nmsOf ls).map D.str)), .no, t4, t5, .no, .no, .no, .no, .no, .no, .no]) ∧ badN [] (nmsOf ls) = badN ((nmsOf ls).take i) ((nmsOf ls).drop i)) 0 ⟨⟨_, _, rfl⟩, rfl⟩ ?_ ?_
    · rintro i x ρ hx ⟨⟨t4, t5, rfl⟩, hbad⟩ kt hk
      obtain ⟨z, hz, hm, rfl⟩ := enum_get hx
      rw [Nat.zero_add] at hk hbad
      obtain ⟨g2, g3⟩ := h1.nm z hm
      simp! only [fIn_ss]
      have fin : (isNm z = true ∧ z ∉ (nmsOf ls).take i → kt [.fz (.int b), .fz (.lst (ls.map lineL)), .fz (.lst ((nmsOf ls).map D.str)), .no, .fz (.int (i : Nat)), .fz (.str z), .no, .no, .no, .no, .no, .no, .no]) := fun g => hk _ ⟨⟨_, _, rfl⟩, by rw [hbad]; exact badN_step hz g⟩
      have bad : (¬ (isNm z = true ∧ z ∉ (nmsOf ls).take i) → Q (.o (.ow [D.str "n", D.str z])) [.no, .no]) := fun g => by
        rw [hbad, badN_stop hz g] at q
        exact q
      have eNm : isNm z = (decide ((z.length : Int) = 1) && strIn z lettersS) := rfl
      by_cases c1 : (z.length : Int) = 1
      · simp! only [c1, decide_true, Bool.not_true]
        refine ⟨g2, ?_⟩
        rw [show (Str.ofString "abcdefghijklmnopqrstuvwxyz") = lettersS from rfl]
        rw [decide_eq_true c1, Bool.true_and] at eNm
        rw [← eNm]
        by_cases c2 : isNm z = true
        · simp! only [c2, Bool.not_true]
          rw [cut_to, ← List.map_take, fIn_ls false g3 fun y hy => (h1.nm y (List.mem_of_mem_take hy)).2]
          by_cases c3 : z ∈ (nmsOf ls).take i
          · simp! only [decide_eq_true c3]
            exact bad fun g => g.2 c3
          · simp! only [decide_eq_false c3]
            exact fin ⟨c2, c3⟩
        · have c2' : isNm z = false := Bool.eq_false_iff.mpr c2
          simp! only [c2', Bool.not_false]
          exact bad fun g => c2 g.1
      · simp! only [decide_eq_false c1, Bool.not_false]
        refine ⟨g2, bad fun g => ?_⟩
        rw [eNm, decide_eq_false c1] at g
        cases g.1
    rintro ρ ⟨⟨t4, t5, rfl⟩, hbad⟩
    refine hk3 _ (sseq fun k4 hk4 => ?_)
    rw [Nat.zero_add, enumD_length, List.length_map, badN_end] at hbad
    rw [hbad] at q
    simp! only []
    refine loopD_inv (fun i ρ => (∃ t3 t4 t5 t6 t7 t8 t9 t10 t11 t12, ρ = [.fz (.int b), .fz (.lst (ls.map lineL)), .fz (.lst ((nmsOf ls).map D.str)), t3, t4, t5, t6, t7, t8, t9, t10, t11, t12]) ∧ badL b (nmsOf ls) ls = badL b (nmsOf ls) (ls.drop i)) 0 ⟨⟨_, _, _, _, _, _, _, _, _, _, rfl⟩, rfl⟩ ?_ ?_
    · rintro i x ρ hx ⟨⟨t3, t4, t5, t6, t7, t8, t9, t10, t11, t12, rfl⟩, hbl⟩ kt hk
      obtain ⟨x, hp, hm, rfl⟩ := map_get hx
      rw [Nat.zero_add] at hbl hk
      obtain ⟨s1, s2⟩ := h1.rs x hm
      simp! only [lineL, blocksL]
      refine sseq fun j1 w1 => ?_
      simp! only []
      have key : ∀ t3 : SV, j1 [.fz (.int b), .fz (.lst (ls.map lineL)), .fz (.lst ((nmsOf ls).map D.str)), t3, t4, .fz (.str x.1), .fz (.int x.2.1), .fz (blocksL x.2.2), .fz (.bl (!(decide ((x.2.2.length : Int) = b) && x.2.2.all fun r => decide ((r.length : Int) = b)))), t9, t10, t11, t12] := fun t3 => by
        refine w1 _ (sseq fun j2 w2 => ?_)
        simp! only [blocksL]
        generalize ho : (!(decide ((x.2.2.length : Int) = b) && x.2.2.all fun r => decide ((r.length : Int) = b))) = o
        refine loopD_inv (fun i ρ => ∃ t3 t9 t10 t11 t12, ρ = [.fz (.int b), .fz (.lst (ls.map lineL)), .fz (.lst ((nmsOf ls).map D.str)), t3, t4, .fz (.str x.1), .fz (.int x.2.1), .fz (blocksL x.2.2), .fz (.bl (o || (x.2.2.take i).any fun r => r.any (strayB (nmsOf ls)))), t9, t10, t11, t12]) 0 ⟨_, _, _, _, _, by rw [List.take_zero, List.any_nil, Bool.or_false]; rfl⟩ ?_ ?_
        · rintro i r ρ hr ⟨t3, t9, t10, t11, t12, rfl⟩ kt2 hk2
          obtain ⟨r, hpr, hmr, rfl⟩ := map_get hr
          rw [Nat.zero_add] at hk2 ⊢
          obtain ⟨r1, r2⟩ := s2 r hmr
          simp! only []
          refine loopD_inv (fun j ρ => ∃ t9 t10 t11 t12, ρ = [.fz (.int b), .fz (.lst (ls.map lineL)), .fz (.lst ((nmsOf ls).map D.str)), .fz (.lst (r.map formL)), t4, .fz (.str x.1), .fz (.int x.2.1), .fz (blocksL x.2.2), .fz (.bl ((o || (x.2.2.take i).any fun r => r.any (strayB (nmsOf ls))) || (r.take j).any (strayB (nmsOf ls)))), t9, t10, t11, t12]) 0 ⟨_, _, _, _, by rw [List.take_zero, List.any_nil, Bool.or_false]⟩ ?_ ?_
          · rintro j f ρ hf ⟨t9, t10, t11, t12, rfl⟩ kt3 hk3
            obtain ⟨f, hpf, hmf, rfl⟩ := map_get hf
            rw [Nat.zero_add] at hk3 ⊢
            obtain ⟨f1, f2⟩ := r2 f hmf
            simp! only []
            refine sseq fun i1 u1 => ?_
            simp! only [formL]
            have sl := stray_len (nmsOf ls) f
            refine lvl_flatS (fun c : Int × Str => if c.2 ∈ nmsOf ls then [] else [D.str c.2]) (by rw [stray_flat, List.length_map, List.length_nil, sizeLine_eq]; omega) ?_ ?_
            · intro c hc acc hl kt4 hk4
              dsimp! only []
              simp! only [BB.pairD]
              rw [fIn_ls true (f2 c hc) fun y hy => (h1.nm y hy).2]
              dsimp! only [] at hk4
              by_cases hin : c.2 ∈ nmsOf ls
              · rw [if_pos hin, List.append_nil] at hk4
                simp! only [decide_eq_true hin, Bool.not_true]
                exact hk4 _ rfl
              · rw [if_neg hin] at hk4 hl
                simp! only [decide_eq_false hin, Bool.not_false]
                exact ⟨hl, hk4 _ rfl⟩
            intro ρ' hw
            rw [unw hw, List.nil_append, stray_flat]
            simp! only []
            refine u1 _ ?_
            have nst : ∀ y, y ∈ strayF (nmsOf ls) f → OkS y := fun y hy => by
              have hy := (List.mem_filter.mp hy).1
              obtain ⟨c, hc, rfl⟩ := List.mem_map.mp hy
              exact f2 c hc
            have step : ((o || (x.2.2.take i).any fun r => r.any (strayB (nmsOf ls))) || (r.take (j + 1)).any (strayB (nmsOf ls))) = (((o || (x.2.2.take i).any fun r => r.any (strayB (nmsOf ls))) || (r.take j).any (strayB (nmsOf ls))) || strayB (nmsOf ls) f) := by
              rw [any_take hpf, Bool.or_assoc, Bool.or_assoc, Bool.or_assoc]
            generalize ((o || (x.2.2.take i).any fun r => r.any (strayB (nmsOf ls))) || (r.take j).any (strayB (nmsOf ls))) = o2 at step ⊢
            cases o2 with
            | true =>
              simp! only []
              exact hk3 _ ⟨_, _, _, _, by rw [step, Bool.true_or]⟩
            | false =>
              simp! only []
              rw [show (D.lst [] : D) = .lst (([] : List Str).map D.str) from rfl, fEq_ls true nst (fun y hy => by cases hy)]
              simp! only []
              exact hk3 _ ⟨_, _, _, _, by rw [step, Bool.false_or]; rfl⟩
          · rintro ρ ⟨t9, t10, t11, t12, rfl⟩
            rw [Nat.zero_add, List.length_map, List.take_length]
            exact hk2 _ ⟨_, _, _, _, _, by rw [any_take hpr, Bool.or_assoc]⟩
        · rintro ρ ⟨t3, t9, t10, t11, t12, rfl⟩
          rw [Nat.zero_add, List.length_map, List.take_length]
          refine w2 _ ?_
          have eok : (o || x.2.2.any fun r => r.any (strayB (nmsOf ls))) = !lineOk b (nmsOf ls) x := by
            rw [← othersL_stray, ← ho]
            unfold lineOk
            simp only [Bool.not_and]
          rw [eok]
          cases hl : lineOk b (nmsOf ls) x with
          | true =>
            simp! only [Bool.not_true]
            exact hk _ ⟨⟨_, _, _, _, _, _, _, _, _, _, rfl⟩, by rw [hbl]; exact badL_step hp hl⟩
          | false =>
            simp! only [Bool.not_false]
            rw [hbl, badL_stop hp hl] at q
            exact q
      by_cases c1 : (x.2.2.length : Int) = b
      · simp! only [decide_eq_true c1, Bool.not_true]
        refine lvl_flatS (fun r => if (!decide ((r.length : Int) = b)) = true then [D.lst (r.map formL)] else []) ?_ ?_ ?_
        · rw [odd_filter, List.length_map, List.length_nil, sizeLine_eq]
          have := List.length_filter_le (fun r : List Form => !decide ((r.length : Int) = b)) x.2.2
          omega
        · intro r hr acc hl kt2 hk2
          dsimp! only []
          simp! only []
          dsimp! only [] at hk2
          by_cases c2 : (r.length : Int) = b
          · rw [decide_eq_true c2, Bool.not_true, if_neg (by decide), List.append_nil] at hk2
            simp! only [decide_eq_true c2, Bool.not_true]
            exact hk2 _ rfl
          · rw [decide_eq_false c2, Bool.not_false, if_pos rfl] at hk2 hl
            simp! only [decide_eq_false c2, Bool.not_false]
            exact ⟨hl, hk2 _ rfl⟩
        intro ρ' hw
        rw [unw hw, List.nil_append, odd_filter]
        rw [fEq_rowsN (fun r hr f hf c hc => ((s2 r (List.mem_filter.mp hr).1).2 f hf).2 c hc), rows_all]
        have := key t3
        rw [decide_eq_true c1, Bool.true_and] at this
        exact this
      · simp! only [decide_eq_false c1, Bool.not_false]
        have := key t3
        rw [decide_eq_false c1, Bool.false_and, Bool.not_false] at this
        exact this
    rintro ρ ⟨⟨t3, t4, t5, t6, t7, t8, t9, t10, t11, t12, rfl⟩, hbl⟩
    rw [Nat.zero_add, List.length_map, List.drop_length] at hbl
    refine hk4 _ ?_
    simp! only []
    rw [hbl] at q
    exact q
  · rw [fIn_odd hb]
    simp! only []
    unfold due3 at q
    rw [if_neg hb] at q
    exact q
def fs_is_name : FS := fun ρ Q _ => ∃ x : Str, ρ = [.fz (.str x)] ∧ x.length ≤ sizeLine ∧ Q (.v (.bl (isNm x))) [.no]
theorem sc_is_name : FnScope ["name"] ["name"] (defScope s_is_name) := ⟨rfl, rfl, rfl, by decide +kernel, rfl, by decide +kernel, by decide +kernel⟩
theorem b_is_name (T : Txt K mg) : Binds K T.u_is_name ["name"] [] := T.f_is_name.binds fun _ _ _ _ _ _ us hl => match us, hl with | [_], _ => rfl
theorem ok_is_name (T : Txt K mg) : FnD P w K mg base 1 T.a_is_name T.u_is_name ["name"] (fs_is_name) := by
  refine fnd_of T.f_is_name sc_is_name [false] rfl (fun cdv A outer s H E a hr => (sb_one (ss_ret (es_and (es_eq (u64 hr) (es_len T.z_len (es_var 0)) es_int) (es_one (es_in (u65 hr) (es_var 0) (es_globE T.g_LETTERS fun F => T.d_LETTERS F))))))) (fun ρ Q Xx h => ?_)
  obtain ⟨x, rfl, h, q⟩ := h
  refine ⟨⟨rfl, trivial⟩, ?_⟩
  simp! only [h, fIn_ss]
  unfold isNm at q
  by_cases hx : (x.length : Int) = 1
  · simp only [hx, decide_true, if_true, Bool.true_and] at q ⊢
    exact q
  · simp only [hx, decide_false, Bool.false_eq_true, if_false, Bool.false_and] at q ⊢
    exact q
def fs_check_names (T : Txt K mg) : FS := fun ρ Q X => ∃ ls : List Line, ρ = [.fz (.lst (ls.map lineL))] ∧ (ls.length ≤ 26 ∧ ∀ x, x ∈ nmsOf ls → x.length ≤ sizeLine ∧ OkS x) ∧ (badN [] (nmsOf ls) = none → Q (.v .non) [.no]) ∧ (∀ x, badN [] (nmsOf ls) = some x → X T.a_InvalidName (.str x) [.no])
theorem sc_check_names : FnScope ["named", "seen", "name", "start", "blocks"] ["named"] (defScope s_check_names) := ⟨rfl, rfl, rfl, by decide +kernel, rfl, by decide +kernel, by decide +kernel⟩
theorem b_check_names (T : Txt K mg) : Binds K T.u_check_names ["named"] [] := T.f_check_names.binds fun _ _ _ _ _ _ us hl => match us, hl with | [_], _ => rfl
theorem ok_check_names (T : Txt K mg) : FnD P w K mg base 3 T.a_check_names T.u_check_names ["named"] (fs_check_names T) := by
  refine fnd_of T.f_check_names sc_check_names [false] rfl (fun cdv A outer s H E a hr => (sb_cons (ss_set 1 sc_check_names.nd (es_lst el_nil))
      (sb_one (ss_for (passes_of rfl) rfl (ei_seq (es_var 0)) (eg_tup (n := 3) rfl (egs_cons (eg_name 2 sc_check_names.nd) (egs_cons (eg_name 3 sc_check_names.nd) (egs_cons (eg_name 4 sc_check_names.nd) egs_nil)))) (sb_cons (ss_if (et_w (ew_or (et_not (et_val (es_call (ok_is_name (P := P) T) (hr.mono (by decide)) T.m_is_name T.f_is_name.kp (b_is_name T) tk_cx (ea_cons (es_var 2) ea_nil)))) (ew_or1 (et_in (u65 hr) (es_var 2) (es_var 1))))) (sb_one (ss_raise T.xc_InvalidName T.ii_InvalidName T.ti_x (T.xi (P := P) _ _) (hr.mono (by decide)) T.xb rfl tk_cx T.m_InvalidName (el_cons (es_var 2) el_nil))) sb_nil)
      (sb_one (ss_expr (es_append 1 (es_var 2))))))))) (fun ρ Q Xx h => ?_)
  obtain ⟨ls, rfl, ⟨h1, h3⟩, q, r⟩ := h
  refine ⟨⟨rfl, trivial⟩, ?_⟩
  refine sseq fun k1 hk1 => ?_
  simp! only []
  refine hk1 _ ?_
  simp! only []
  refine loopD_inv (fun i ρ => (∃ t2 t3 t4, ρ = [.fz (.lst (ls.map lineL)), .ow (((nmsOf ls).take i).map D.str), t2, t3, t4]) ∧ badN [] (nmsOf ls) = badN ((nmsOf ls).take i) ((nmsOf ls).drop i)) 0 ⟨⟨_, _, _, rfl⟩, rfl⟩ ?_ ?_
  · rintro i x ρ hx ⟨⟨t2, t3, t4, rfl⟩, hb⟩ kt hk
    rw [Nat.zero_add] at hk hb ⊢
    obtain ⟨x, hp, hm, rfl⟩ := map_get hx
    have hn : x.1 ∈ nmsOf ls := List.mem_map.mpr ⟨x, hm, rfl⟩
    obtain ⟨g2, g3⟩ := h3 _ hn
    simp! only [lineL]
    refine sseq fun j1 w1 => ?_
    simp! only []
    refine ⟨_, rfl, g2, ?_⟩
    simp! only []
    by_cases g1 : isNm x.1 = true
    · simp! only [g1, Bool.not_true]
      rw [fIn_ls false g3 fun y hy => (h3 y (List.mem_of_mem_take hy)).2]
      by_cases hni : x.1 ∈ (nmsOf ls).take i
      · simp! only [decide_eq_true hni]
        exact r _ (by rw [hb]; exact badN_stop (nms_get hp) fun z => z.2 hni)
      · simp! only [decide_eq_false hni]
        refine w1 _ ?_
        simp! only []
        have hb2 := hb.trans (badN_step (nms_get hp) ⟨g1, hni⟩)
        rw [take_step (nms_get hp), List.map_append] at hk
        refine ⟨⟨_, rfl⟩, ?_, hk _ ⟨⟨_, _, _, rfl⟩, by rw [← take_step (nms_get hp)]; exact hb2⟩⟩
        rw [List.length_take, nms_len, sizeLine_eq]
        omega
    · have g1' : isNm x.1 = false := by simpa using g1
      simp! only [g1', Bool.not_false]
      exact r _ (by rw [hb]; exact badN_stop (nms_get hp) fun z => g1 z.1)
  · rintro ρ ⟨⟨t2, t3, t4, rfl⟩, hb⟩
    simp! only []
    rw [Nat.zero_add, List.length_map, ← nms_len, badN_end] at hb
    exact q hb
def fs_is_square : FS := fun ρ Q _ => ∃ (b : Int) (bl : List (List Form)), ρ = [.fz (.int b), .fz (blocksL bl)] ∧ bl.length ≤ 1000 ∧ Q (.v (.bl (decide ((bl.length : Int) = b) && bl.all fun r => decide ((r.length : Int) = b)))) [.no, .no]
theorem sc_is_square : FnScope ["base", "blocks", "line"] ["base", "blocks"] (defScope s_is_square) := ⟨rfl, rfl, rfl, by decide +kernel, rfl, by decide +kernel, by decide +kernel⟩
theorem b_is_square (T : Txt K mg) : Binds K T.u_is_square ["base", "blocks"] [] := T.f_is_square.binds fun _ _ _ _ _ _ us hl => match us, hl with | [_, _], _ => rfl
theorem ok_is_square (T : Txt K mg) : FnD P w K mg base 1 T.a_is_square T.u_is_square ["base", "blocks"] (fs_is_square) := by
  refine fnd_of T.f_is_square sc_is_square [false, false] rfl (fun cdv A outer s H E a hr => (sb_one (ss_ret (es_and (es_eq (u64 hr) (es_len T.z_len (es_var 1)) (es_var 0)) (es_one (es_all rfl T.z_all (es_lc1 [("line", 2)] rfl sc_is_square.nd (by rfl) (by rfl) (by decide) (ei_seq (es_var 1)) (fun _ _ _ _ _ => (eg_name 2 sc_is_square.nd)) (fun _ _ _ _ _ => ets_nil) (fun _ _ _ _ _ => (es_eq (u64 hr) (es_len T.z_len (es_var 2)) (es_var 0)))))))))) (fun ρ Q Xx h => ?_)
  obtain ⟨b, bl, rfl, h1, q⟩ := h
  refine ⟨⟨rfl, rfl, trivial⟩, ?_⟩
  simp! only [blocksL]
  by_cases e : (bl.length : Int) = b
  · rw [decide_eq_true e, Bool.true_and] at q
    simp! only [decide_eq_true e]
    refine lvl_mapS (fun r => .bl (decide ((r.length : Int) = (b : Int)))) (by rw [List.length_nil, sizeLine_eq]; omega) ?_ ?_
    · intro r hr acc hl kt hk
      dsimp! only []
      simp! only []
      exact ⟨hl, hk _ rfl⟩
    · intro ρ' hw
      rw [unw hw, List.nil_append, bls_all]
      simp! only []
      rw [List.all_map] 
      exact q
  · rw [decide_eq_false e, Bool.false_and] at q
    simp! only [decide_eq_false e]
    exact q
def fs_check_blocks (T : Txt K mg) : FS := fun ρ Q X => ∃ (b : Int) (ls : List Line), ρ = [.fz (.int b), .fz (.lst (ls.map lineL))] ∧ Tame ls ∧ (badL b (nmsOf ls) ls = none → Q (.v .non) [.no, .no]) ∧ (∀ x, badL b (nmsOf ls) ls = some x → X T.a_InvalidBlocks (.str x) [.no, .no])
theorem sc_check_blocks : FnScope ["base", "named", "known", "name", "start", "blocks", "others", "line", "formula", "coefficient", "other"] ["base", "named"] (defScope s_check_blocks) := ⟨rfl, rfl, rfl, by decide +kernel, rfl, by decide +kernel, by decide +kernel⟩
theorem b_check_blocks (T : Txt K mg) : Binds K T.u_check_blocks ["base", "named"] [] := T.f_check_blocks.binds fun _ _ _ _ _ _ us hl => match us, hl with | [_, _], _ => rfl
theorem ok_check_blocks (T : Txt K mg) : FnD P w K mg base 3 T.a_check_blocks T.u_check_blocks ["base", "named"] (fs_check_blocks T) := by
  refine fnd_of T.f_check_blocks sc_check_blocks [false, false] rfl (fun cdv A outer s H E a hr => (sb_cons (ss_set 2 sc_check_blocks.nd (es_lc1 [("name", 3), ("start", 4), ("blocks", 5)] rfl sc_check_blocks.nd (by rfl) (by rfl) (by decide) (ei_seq (es_var 1)) (fun _ _ _ _ _ => (eg_tup (n := 3) rfl (egs_cons (eg_name 3 sc_check_blocks.nd) (egs_cons (eg_name 4 sc_check_blocks.nd) (egs_cons (eg_name 5 sc_check_blocks.nd) egs_nil))))) (fun _ _ _ _ _ => ets_nil) (fun _ _ _ _ _ => (es_var 3))))
      (sb_one (ss_for (passes_of rfl) rfl (ei_seq (es_var 1)) (eg_tup (n := 3) rfl (egs_cons (eg_name 3 sc_check_blocks.nd) (egs_cons (eg_name 4 sc_check_blocks.nd) (egs_cons (eg_name 5 sc_check_blocks.nd) egs_nil)))) (sb_cons (ss_setLc3 [("line", 7), ("formula", 8), ("coefficient", 9), ("other", 10)] [8, 9, 10] [9, 10] 6 rfl sc_check_blocks.nd (by rfl) (by rfl) (by decide) (by decide) (by decide) (by decide) (by decide) (ei_seq (es_var 5)) (fun _ _ _ _ _ => (eg_name 7 sc_check_blocks.nd)) (fun _ _ _ _ _ => ets_nil) (fun _ _ _ _ _ => (ei_seq (es_var 7))) (fun _ _ _ _ _ => (eg_name 8 sc_check_blocks.nd)) (fun _ _ _ _ _ => ets_nil) (fun _ _ _ _ _ => (ei_seq (es_var 8))) (fun _ _ _ _ _ => (eg_tup (n := 2) rfl (egs_cons (eg_name 9 sc_check_blocks.nd) (egs_cons (eg_name 10 sc_check_blocks.nd) egs_nil)))) (fun _ _ _ _ _ => ets_nil) (fun _ _ _ _ _ => (es_var 10)) (by rfl))
      (sb_one (ss_if (et_w (ew_or (et_not (et_val (es_call (ok_is_square (P := P) T) (hr.mono (by decide)) T.m_is_square T.f_is_square.kp (b_is_square T) tk_cx (ea_cons (es_var 0) (ea_cons (es_var 5) ea_nil))))) (ew_or1 (et_not (et_val (es_all rfl T.z_all (es_lc1 [("other", 10)] rfl sc_check_blocks.nd (by rfl) (by rfl) (by decide) (ei_seq (es_var 6)) (fun _ _ _ _ _ => (eg_name 10 sc_check_blocks.nd)) (fun _ _ _ _ _ => ets_nil) (fun _ _ _ _ _ => (es_in (u65 hr) (es_var 10) (es_var 2)))))))))) (sb_one (ss_raise T.xc_InvalidBlocks T.ii_InvalidBlocks T.ti_x (T.xi (P := P) _ _) (hr.mono (by decide)) T.xb rfl tk_cx T.m_InvalidBlocks (el_cons (es_var 3) el_nil))) sb_nil))))))) (fun ρ Q Xx h => ?_)
  obtain ⟨b, ls, rfl, h1, q, rr⟩ := h
  refine ⟨⟨rfl, rfl, trivial⟩, ?_⟩
  have hn := h1.few
  refine sseq fun k1 hk1 => ?_
  simp! only []
  refine lvl_mapS (fun x => .str x.1) (by rw [List.length_nil, sizeLine_eq]; omega) ?_ ?_
  · intro x hx acc hl kt hk
    dsimp! only []
    simp! only [lineL]
    exact ⟨hl, hk _ rfl⟩
  · intro ρ' hw
    rw [unw hw, List.nil_append, nms_map]
    simp! only []
    refine hk1 _ ?_
    simp! only []
    refine loopD_inv (fun i ρ => (∃ t3 t4 t5 t6 t7 t8 t9 t10, ρ = [.fz (.int b), .fz (.lst (ls.map lineL)), .ow ((nmsOf ls).map D.str), t3, t4, t5, t6, t7, t8, t9, t10]) ∧ badL b (nmsOf ls) ls = badL b (nmsOf ls) (ls.drop i)) 0 ⟨⟨_, _, _, _, _, _, _, _, rfl⟩, rfl⟩ ?_ ?_
    · rintro i x ρ hx ⟨⟨t3, t4, t5, t6, t7, t8, t9, t10, rfl⟩, hbad⟩ kt hk
      obtain ⟨x, hp, hm, rfl⟩ := map_get hx
      rw [Nat.zero_add] at hbad hk
      simp! only [lineL]
      refine sseq fun j1 w1 => ?_
      simp! only [blocksL]
      obtain ⟨ho1, ho2⟩ := h1.oth hm
      obtain ⟨s1, s2⟩ := h1.rs x hm
      refine lvl_flatS (fun r => (r.flatMap flatF).map D.str) (by rw [oth2, List.length_map, List.length_nil, sizeLine_eq]; omega) ?_ ?_
      · intro r hr acc hl kt1 hk1
        rw [List.length_map] at hl
        dsimp! only []
        simp! only []
        refine lvl_flatS (fun f => (flatF f).map D.str) (by rw [oth1, List.length_map]; exact hl) ?_ ?_
        · intro f hf acc2 hl2 kt2 hk2
          rw [List.length_map] at hl2
          dsimp! only []
          simp! only [formL]
          refine lvl_mapS (fun c => .str c.2) (by rw [flatF, List.length_map] at hl2; exact hl2) ?_ ?_
          · intro c hc acc3 hl3 kt3 hk3
            dsimp! only []
            simp! only [BB.pairD]
            exact ⟨hl3, hk3 _ rfl⟩
          · intro ρ' hw
            rw [flatF_map]
            exact hk2 _ (by rw [hw]; rfl)
        · intro ρ' hw
          rw [oth1]
          exact hk1 _ (by rw [hw]; rfl)
      · intro ρ' hw
        rw [unw hw, List.nil_append, oth2]
        simp! only []
        refine w1 _ ?_
        simp! only []
        refine ⟨b, x.2.2, rfl, by omega, ?_⟩
        simp! only []
        by_cases hsq : (decide ((x.2.2.length : Int) = b) && x.2.2.all fun r => decide ((r.length : Int) = b)) = true
        · simp! only [hsq, Bool.not_true]
          refine lvl_mapS (fun o => .bl (decide (o ∈ nmsOf ls))) (by rw [List.length_nil, sizeLine_eq]; omega) ?_ ?_
          · intro o ho acc hl kt1 hk1
            dsimp! only []
            simp! only []
            rw [fIn_ls false (ho2 _ ho) fun y hy => (h1.nm y hy).2]
            simp! only []
            exact ⟨hl, hk1 _ rfl⟩
          · intro ρ2 hw2
            rw [unw hw2, List.nil_append, bls_all]
            simp! only []
            rw [List.all_map]
            by_cases ho : ((othersL x.2.2).all fun o => decide (o ∈ nmsOf ls)) = true
            · rw [show ((othersL x.2.2).all (id ∘ fun o => decide (o ∈ nmsOf ls))) = true from ho]
              simp! only [Bool.not_true]
              refine hk _ ⟨⟨_, _, _, _, _, _, _, _, rfl⟩, ?_⟩
              rw [hbad]
              exact badL_step hp (by unfold lineOk; rw [hsq, ho]; rfl)
            · have ho' := Bool.eq_false_iff.mpr ho
              rw [show ((othersL x.2.2).all (id ∘ fun o => decide (o ∈ nmsOf ls))) = false from ho']
              simp! only [Bool.not_false]
              exact rr _ (by rw [hbad]; exact badL_stop hp (by unfold lineOk; rw [ho', Bool.and_false]))
        · have hsq' := Bool.eq_false_iff.mpr hsq
          simp! only [hsq', Bool.not_false]
          exact rr _ (by rw [hbad]; exact badL_stop hp (by unfold lineOk; rw [hsq', Bool.false_and]))
    · rintro ρ ⟨⟨t3, t4, t5, t6, t7, t8, t9, t10, rfl⟩, hbad⟩
      simp! only []
      rw [Nat.zero_add, List.length_map, List.drop_length] at hbad
      exact q hbad
def fs_kept_blocks : FS := fun ρ Q _ => ∃ bl : List (List Form), ρ = [.fz (blocksL bl)] ∧ (bl.length ≤ 1000 ∧ ∀ r, r ∈ bl → r.length ≤ 1000) ∧ Q (.v (blocksT bl)) [.no]
theorem sc_kept_blocks : FnScope ["blocks", "formula", "line"] ["blocks"] (defScope s_kept_blocks) := ⟨rfl, rfl, rfl, by decide +kernel, rfl, by decide +kernel, by decide +kernel⟩
theorem b_kept_blocks (T : Txt K mg) : Binds K T.u_kept_blocks ["blocks"] [] := T.f_kept_blocks.binds fun _ _ _ _ _ _ us hl => match us, hl with | [_], _ => rfl
theorem ok_kept_blocks (T : Txt K mg) : FnD P w K mg base 1 T.a_kept_blocks T.u_kept_blocks ["blocks"] (fs_kept_blocks) := by
  refine fnd_of T.f_kept_blocks sc_kept_blocks [false] rfl (fun cdv A outer s H E a hr => (sb_one (ss_ret (es_tuple T.z_tuple (es_lc1 [("line", 2)] rfl sc_kept_blocks.nd (by rfl) (by rfl) (by decide) (ei_seq (es_var 0)) (fun _ _ _ _ _ => (eg_name 2 sc_kept_blocks.nd)) (fun _ _ _ _ _ => ets_nil) (fun _ _ _ _ _ => (es_tuple T.z_tuple (es_lc1 [("formula", 1)] rfl sc_kept_blocks.nd (by rfl) (by rfl) (by decide) (ei_seq (es_var 2)) (fun _ _ _ _ _ => (eg_name 1 sc_kept_blocks.nd)) (fun _ _ _ _ _ => ets_nil) (fun _ _ _ _ _ => (es_tuple T.z_tuple (es_var 1))))))))))) (fun ρ Q Xx h => ?_)
  obtain ⟨bl, rfl, ⟨h1, h2⟩, q⟩ := h
  refine ⟨⟨rfl, trivial⟩, ?_⟩
  simp! only [blocksL]
  refine lvl_mapS (fun r => .tup (r.map formT)) (by rw [List.length_nil, sizeLine_eq]; omega) ?_ ?_
  · intro r hr acc hl kt hk
    have hr1 := h2 r hr
    dsimp! only []
    simp! only []
    refine lvl_mapS (fun f => formT f) (by rw [List.length_nil, sizeLine_eq]; omega) ?_ ?_
    · intro f hf acc2 hl2 kt2 hk2
      dsimp! only []
      simp! only [formL]
      exact ⟨hl2, hk2 _ rfl⟩
    · intro ρ' hw
      rw [unw hw]
      exact ⟨hl, hk _ rfl⟩
  · intro ρ' hw
    rw [unw hw]
    exact q
def fs_Book_init (T : Txt K mg) : FS := fun ρ Q X => ∃ (b : Int) (ls : List Line), ρ = [.oi T.a_Book [], .fz (.int b), .fz (.lst (ls.map lineL))] ∧ Tame ls ∧ (¬ (b = 2 ∨ b = 3) → X T.a_InvalidBase (.int b) [.oi T.a_Book [], .no, .no]) ∧
  ((b = 2 ∨ b = 3) → (∀ x, badN [] (nmsOf ls) = some x → X T.a_InvalidName (.str x) [.oi T.a_Book [], .no, .no]) ∧ (badN [] (nmsOf ls) = none → (∀ x, badL b (nmsOf ls) ls = some x → X T.a_InvalidBlocks (.str x) [.oi T.a_Book [], .no, .no]) ∧
    (badL b (nmsOf ls) ls = none → Q (.v .non) [.oi T.a_Book (bookF b ls), .no, .no])))
theorem sc_Book_init : FnScope ["self", "base", "named", "name", "start", "blocks"] ["self", "base", "named"] (defScope s_Book_init) := ⟨rfl, rfl, rfl, by decide +kernel, rfl, by decide +kernel, by decide +kernel⟩
theorem b_Book_init (T : Txt K mg) : Binds K T.u_Book_init ["self", "base", "named"] [] := T.f_Book_init.binds fun _ _ _ _ _ _ us hl => match us, hl with | [_, _, _], _ => rfl
theorem ok_Book_init (T : Txt K mg) : FnD P w K mg base 4 T.a_Book_init T.u_Book_init ["self", "base", "named"] (fs_Book_init T) := by
  refine fnd_of T.f_Book_init sc_Book_init [true, false, false] rfl (fun cdv A outer s H E a hr => (sb_cons (ss_if (et_notin (u65 hr) (es_var 1) (es_globE T.g_BASES fun F => T.d_BASES F)) (sb_one (ss_raise T.xc_InvalidBase T.ii_InvalidBase T.ti_x (T.xi (P := P) _ _) (hr.mono (by decide)) T.xb rfl tk_cx T.m_InvalidBase (el_cons (es_var 1) el_nil))) sb_nil)
      (sb_cons (ss_expr (es_call (ok_check_names (P := P) T) (hr.mono (by decide)) T.m_check_names T.f_check_names.kp (b_check_names T) tk_cx (ea_cons (es_var 2) ea_nil)))
      (sb_cons (ss_expr (es_call (ok_check_blocks (P := P) T) (hr.mono (by decide)) T.m_check_blocks T.f_check_blocks.kp (b_check_blocks T) tk_cx (ea_cons (es_var 1) (ea_cons (es_var 2) ea_nil))))
      (sb_cons (ss_fld 0 T.c_Book T.n_Book_radix (es_var 1))
      (sb_one (ss_fld 0 T.c_Book T.n_Book_kept (es_tuple T.z_tuple (es_lc1 [("name", 3), ("start", 4), ("blocks", 5)] rfl sc_Book_init.nd (by rfl) (by rfl) (by decide) (ei_seq (es_var 2)) (fun _ _ _ _ _ => (eg_tup (n := 3) rfl (egs_cons (eg_name 3 sc_Book_init.nd) (egs_cons (eg_name 4 sc_Book_init.nd) (egs_cons (eg_name 5 sc_Book_init.nd) egs_nil))))) (fun _ _ _ _ _ => ets_nil) (fun _ _ _ _ _ => (es_tup (el_cons (es_var 3) (el_cons (es_var 4) (el_cons (es_call (ok_kept_blocks (P := P) T) (hr.mono (by decide)) T.m_kept_blocks T.f_kept_blocks.kp (b_kept_blocks T) takes0 (ea_cons (es_var 5) ea_nil)) el_nil)))))))))))))) (fun ρ Q Xx h => ?_)
  obtain ⟨b, ls, rfl, h1, x1, x2⟩ := h
  refine ⟨⟨rfl, rfl, rfl, trivial⟩, ?_⟩
  have hn := h1.few
  refine sseq fun k1 hk1 => ?_
  simp! only []
  by_cases hb : b = 2 ∨ b = 3
  · rw [fIn_base hb]
    simp! only []
    obtain ⟨y1, y2⟩ := x2 hb
    refine hk1 _ (sseq fun k2 hk2 => ?_)
    simp! only []
    refine ⟨ls, rfl, ⟨hn, h1.nm⟩, fun e => ?_, fun x e => ?_⟩
    · simp! only []
      obtain ⟨z1, z2⟩ := y2 e
      refine hk2 _ (sseq fun k3 hk3 => ?_)
      simp! only []
      refine ⟨b, ls, rfl, h1, fun e => ?_, fun x e => ?_⟩
      · simp! only []
        refine hk3 _ (sseq fun k4 hk4 => ?_)
        simp! only []
        refine ⟨by decide, hk4 _ ?_⟩
        simp! only []
        refine lvl_mapS lineT (by rw [List.length_nil, sizeLine_eq]; omega) ?_ ?_
        · intro x hx acc hl kt hk
          obtain ⟨s1, s2⟩ := h1.rs x hx
          dsimp! only []
          simp! only [lineL]
          refine ⟨_, rfl, ⟨by omega, fun r hr => by have := (s2 r hr).1; omega⟩, ?_⟩
          simp! only []
          exact ⟨hl, hk _ rfl⟩
        · intro ρ' hw
          rw [unw hw, List.nil_append]
          have l1 := len_put (f := ("radix" : Str)) (d := .int b) []
          simp only [List.length_nil] at l1
          simp! only []
          exact ⟨by omega, z2 e⟩
      · simp! only []
        exact z1 x e
    · simp! only []
      exact y1 x e
  · rw [fIn_odd hb]
    simp! only []
    exact x1 hb
def fs__law_caught (T : Txt K mg) : FS := fun ρ Q _ => ∃ (b : Int) (ls : List Line) (w : Bool), ρ = [.fz (.int b), .fz (.lst (ls.map lineL)), .fz (.bl w)] ∧ Tame ls ∧ Q (.o (.ow (due3 b ls))) [.no, .no, .no]
theorem sc__law_caught : FnScope ["base_here", "lines", "is_named", "e", "odd", "kinds"] ["base_here", "lines", "is_named"] (defScope s__law_caught) := ⟨rfl, rfl, rfl, by decide +kernel, rfl, by decide +kernel, by decide +kernel⟩
theorem b__law_caught (T : Txt K mg) : Binds K T.u__law_caught ["base_here", "lines", "is_named"] [] := T.f__law_caught.binds fun _ _ _ _ _ _ us hl => match us, hl with | [_, _, _], _ => rfl
theorem kw0__law_caught (T : Txt K mg) : KwB T.u_Book_init ["self", "base", "named"] ["named", "base"] [1, 0] 1 := kw_of T.f_Book_init fun _ _ _ _ _ _ us ws h1 h2 => match us, ws, h1, h2 with | [_], [_, _], _, _ => rfl
def su__law_caught {w : World} {base : Heap} (T : Txt K mg) (exA exC exD : Addr) : { ms : MS // ∀ (cdv : Value) (A : Around) (outer : List Env) (s : Shared) (H : Hp) (E : XK) (a : Nat → Addr) (oeX : Obj) (pnX : List (Addr × Obj)), okc T exC → Zc (.ref exC) (some exD) oeX → (∃ vs, oeX.data = .fields vs) →
    SB (Cx.suite (cxOf (L2.CX P w) P w K mg base ["base_here", "lines", "is_named", "e", "odd", "kinds"] "_law_caught" (defScope s__law_caught) T.a__law_caught cdv A outer s H E) exA ((exA, oeX) :: pnX)) (fxM 0 [false, false, false] a) (fun _ _ _ _ => False) (suOf (defBody s__law_caught)) ms } :=
  ⟨_, fun cdv A outer s H E a oeX pnX hoX hzX hfX => (sb_cons (ss_set 4 sc__law_caught.nd (es_isXT (xis T hoX) hzX hfX T.z_isinstance (.cons (.own T.a_InvalidArea) (.cons (.own T.a_InvalidLevel) (.cons (.own T.a_InvalidNumber) (.cons (.own T.a_InvalidPlace) (.cons (.own T.a_InvalidRest) (.cons (.own T.a_NothingToUndo) .nil)))))) (Nat.le_of_ble_eq_true rfl) (es_var 3) (pa_cons (pe_clsO T.m_InvalidArea) (pa_cons (pe_clsO T.m_InvalidLevel) (pa_cons (pe_clsO T.m_InvalidNumber) (pa_cons (pe_clsO T.m_InvalidPlace) (pa_cons (pe_clsO T.m_InvalidRest) (pa_cons (pe_clsO T.m_NothingToUndo) pa_nil))))))))
      (sb_cons (ss_if (et_w (ew_or (et_val (es_var 4)) (ew_or (et_val (es_isXT (xis T hoX) hzX hfX T.z_isinstance (.cons (.own T.a_TooWide) (.cons (.own T.a_UnlikeBases) (.cons (.own T.a_Unreadable) .nil))) (Nat.le_of_ble_eq_true rfl) (es_var 3) (pa_cons (pe_clsO T.m_TooWide) (pa_cons (pe_clsO T.m_UnlikeBases) (pa_cons (pe_clsO T.m_Unreadable) pa_nil))))) (ew_or1 (et_not (et_val (es_isX (xis T hoX) hzX hfX T.z_isinstance (.ty "ValueError") (es_var 3) (pe_clsV T.z_ValueError)))))))) (sb_one (ss_ret (es_lst (el_cons es_str el_nil)))) sb_nil)
      (sb_cons (ss_set 5 sc__law_caught.nd (es_add (es_mulS es_str (es_intF T.z_int (es_isX (xis T hoX) hzX hfX T.z_isinstance (.own T.a_InvalidBase) (es_var 3) (pe_clsO T.m_InvalidBase)))) (es_mulS es_str (es_intF T.z_int (es_isX (xis T hoX) hzX hfX T.z_isinstance (.own T.a_InvalidName) (es_var 3) (pe_clsO T.m_InvalidName))))))
      (sb_one (ss_ret (es_lst (el_cons (es_add (es_var 5) (es_mulS es_str (es_intF T.z_int (es_isX (xis T hoX) hzX hfX T.z_isinstance (.own T.a_InvalidBlocks) (es_var 3) (pe_clsO T.m_InvalidBlocks))))) (el_cons (es_xval (xis T hoX) hzX hfX (es_var 3)) el_nil))))))))⟩
theorem ok__law_caught (T : Txt K mg) : FnD P w K mg base 6 T.a__law_caught T.u__law_caught ["base_here", "lines", "is_named"] (fs__law_caught T) := by
  refine fnd_of T.f__law_caught sc__law_caught [false, false, false] rfl (fun cdv A outer s H E a hr => (sb_cons (ss_try (ok := okc T) (i := 3) (msu := fun exA exC exD => (su__law_caught (w := w) (base := base) T exA exC exD).1) (okx T) rfl rfl sc__law_caught.nd rfl rfl ⟨rfl, by decide, .inl T.m_BlockError⟩ tk_cx rfl (fun _ _ _ tk2 => (sb_one (ss_if (et_val (es_var 2)) (sb_one (ss_expr (es_makeK T.k_Book (ok_Book_init (P := P) T) (hr.mono (by decide)) T.m_Book (kw0__law_caught T) tk2 (ek_cons (es_var 1) (ek_cons (es_var 0) ek_nil))))) (sb_one (ss_expr (es_make T.k_Book (ok_Book_init (P := P) T) (hr.mono (by decide)) T.m_Book (b_Book_init T) tk2 (ea_cons (es_var 0) (ea_cons (es_var 1) ea_nil)))))))) (fun exA exC exD oeX pnX hoX hzX hfX => (su__law_caught T exA exC exD).2 _ _ _ _ _ _ _ oeX pnX hoX hzX hfX))
      (sb_one (ss_ret (es_lst el_nil))))) (fun ρ Q Xx h => ?_)
  obtain ⟨b, ls, wn, rfl, h1, q⟩ := h
  refine ⟨⟨rfl, rfl, rfl, trivial⟩, ?_⟩
  refine sseq fun k1 w1 => ?_
  cases wn
  all_goals
    simp! only []
    refine ⟨b, ls, rfl, h1, fun e => ?_, fun e => ⟨fun x e2 => ?_, fun e2 => ⟨fun x e3 => ?_, fun e3 => ?_⟩⟩⟩
    · unfold due3 at q
      rw [if_neg e] at q
      simp! only []
      refine ⟨.inl rfl, fun a dx => ?_⟩
      simp! only [su__law_caught]
      refine sseq fun s1 v1 => ?_
      simp! only []
      refine ⟨false, ka0_InvalidBase T, v1 _ (sseq fun s2 v2 => ?_)⟩
      simp! only []
      refine ⟨false, ka1_InvalidBase T, ?_⟩
      simp! only []
      refine ⟨true, T.kv_InvalidBase, ?_⟩
      simp! only [Bool.not_true]
      refine v2 _ (sseq fun s3 v3 => ?_)
      simp! only []
      refine ⟨true, T.ko_InvalidBase_InvalidBase, ?_⟩
      simp! only []
      refine ⟨.inr trivial, false, T.ko_InvalidBase_InvalidName, .inl rfl, Nat.le_of_ble_eq_true rfl, v3 _ ?_⟩
      simp! only []
      refine ⟨false, T.ko_InvalidBase_InvalidBlocks, ?_⟩
      simp! only []
      refine ⟨.inl trivial, Nat.le_of_ble_eq_true rfl, ?_⟩
      exact q
    · unfold due3 at q
      rw [if_pos e, e2] at q
      simp! only []
      refine ⟨.inr (.inr rfl), fun a dx => ?_⟩
      simp! only [su__law_caught]
      refine sseq fun s1 v1 => ?_
      simp! only []
      refine ⟨false, ka0_InvalidName T, v1 _ (sseq fun s2 v2 => ?_)⟩
      simp! only []
      refine ⟨false, ka1_InvalidName T, ?_⟩
      simp! only []
      refine ⟨true, T.kv_InvalidName, ?_⟩
      simp! only [Bool.not_true]
      refine v2 _ (sseq fun s3 v3 => ?_)
      simp! only []
      refine ⟨false, T.ko_InvalidName_InvalidBase, ?_⟩
      simp! only []
      refine ⟨.inl trivial, true, T.ko_InvalidName_InvalidName, .inr rfl, Nat.le_of_ble_eq_true rfl, v3 _ ?_⟩
      simp! only []
      refine ⟨false, T.ko_InvalidName_InvalidBlocks, ?_⟩
      simp! only []
      refine ⟨.inl trivial, Nat.le_of_ble_eq_true rfl, ?_⟩
      exact q
    · unfold due3 at q
      rw [if_pos e, e2, e3] at q
      simp! only []
      refine ⟨.inr (.inl rfl), fun a dx => ?_⟩
      simp! only [su__law_caught]
      refine sseq fun s1 v1 => ?_
      simp! only []
      refine ⟨false, ka0_InvalidBlocks T, v1 _ (sseq fun s2 v2 => ?_)⟩
      simp! only []
      refine ⟨false, ka1_InvalidBlocks T, ?_⟩
      simp! only []
      refine ⟨true, T.kv_InvalidBlocks, ?_⟩
      simp! only [Bool.not_true]
      refine v2 _ (sseq fun s3 v3 => ?_)
      simp! only []
      refine ⟨false, T.ko_InvalidBlocks_InvalidBase, ?_⟩
      simp! only []
      refine ⟨.inl trivial, false, T.ko_InvalidBlocks_InvalidName, .inl rfl, Nat.le_of_ble_eq_true rfl, v3 _ ?_⟩
      simp! only []
      refine ⟨true, T.ko_InvalidBlocks_InvalidBlocks, ?_⟩
      simp! only []
      refine ⟨.inr trivial, Nat.le_of_ble_eq_true rfl, ?_⟩
      exact q
    · unfold due3 at q
      rw [if_pos e, e2, e3] at q
      simp! only []
      refine w1 _ ?_
      simp! only []
      exact q
def fs__law_right (T : Txt K mg) : FS := fun ρ Q _ => ∃ (s : SV) (c : Int), ρ = [s] ∧ (PoolAt c s ∧ c < 2 ^ 40) ∧ ∀ s', PoolAt (c + 2 ^ 30) s' → Q (.v (.bl true)) [s']
theorem sc__law_right : FnScope ["pool", "kind", "base_here", "lines", "turn", "kept", "due", "told"] ["pool"] (defScope s__law_right) := ⟨rfl, rfl, rfl, by decide +kernel, rfl, by decide +kernel, by decide +kernel⟩
theorem b__law_right (T : Txt K mg) : Binds K T.u__law_right ["pool"] [] := T.f__law_right.binds fun _ _ _ _ _ _ us hl => match us, hl with | [_], _ => rfl
theorem ok__law_right (T : Txt K mg) : FnG P w K mg base 7 T.a__law_right T.u__law_right ["pool"] (fs__law_right T) := by
  refine fng_of T.f__law_right sc__law_right [true] rfl (fun cdv A outer s H E a hr hg => (sb_cons (ss_set 1 sc__law_right.nd (es_call (ok__law_kind (P := P) T) (hr.mono (by decide)) T.m__law_kind T.f__law_kind.kp (b__law_kind T) tk_cx (ea_lend 0 (ea_cons es_int ea_nil))))
      (sb_cons (ss_par2 2 3 rfl sc__law_right.nd (er_cons (es_ixA (u1 hr) (es_var 1) es_int) (er_cons (es_ixA (u1 hr) (es_var 1) es_int) er_nil)))
      (sb_cons (ss_for (passes_of rfl) rfl (ei_range1 T.z_range (el_cons (es_call (ok__law_draw (P := P) T) (hr.mono (by decide)) T.m__law_draw T.f__law_draw.kp (b__law_draw T) tk_cx (ea_lend 0 (ea_cons es_int ea_nil))) el_nil)) (eg_name 4 sc__law_right.nd) (sb_one (ss_set 3 sc__law_right.nd (es_call (ok__law_bent (P := P) T) (hr.mono (by decide)) T.m__law_bent T.f__law_bent.kp (b__law_bent T) tk_cx (ea_lend 0 (ea_cons (es_var 3) ea_nil))))))
      (sb_cons (ss_if (et_eq (u64 hr) (es_call (ok__law_draw (P := P) T) (hr.mono (by decide)) T.m__law_draw T.f__law_draw.kp (b__law_draw T) tk_cx (ea_lend 0 (ea_cons es_int ea_nil))) es_int) (sb_one (ss_set 2 sc__law_right.nd (es_ixA (u1 hr) (es_lst (el_cons es_int (el_cons es_int (el_cons es_int (el_cons (es_neg es_int) (el_cons (es_pow es_int es_int) (el_cons es_int (el_cons es_int el_nil)))))))) (es_call (ok__law_draw (P := P) T) (hr.mono (by decide)) T.m__law_draw T.f__law_draw.kp (b__law_draw T) tk_cx (ea_lend 0 (ea_cons es_int ea_nil)))))) sb_nil)
      (sb_cons (ss_par2 5 6 rfl sc__law_right.nd (er_cons (es_repr hg (u64 hr) T.z_repr (es_var 3)) (er_cons (es_call (ok__law_due (P := P) T) (hr.mono (by decide)) T.m__law_due T.f__law_due.kp (b__law_due T) tk_cx (ea_cons (es_var 2) (ea_cons (es_var 3) ea_nil))) er_nil)))
      (sb_cons (ss_set 7 sc__law_right.nd (es_lst (el_cons (es_call (ok__law_caught (P := P) T) (hr.mono (by decide)) T.m__law_caught T.f__law_caught.kp (b__law_caught T) tk_cx (ea_cons (es_var 2) (ea_cons (es_var 3) (ea_cons es_bl ea_nil)))) (el_cons (es_call (ok__law_caught (P := P) T) (hr.mono (by decide)) T.m__law_caught T.f__law_caught.kp (b__law_caught T) tk_cx (ea_cons (es_var 2) (ea_cons (es_var 3) (ea_cons es_bl ea_nil)))) el_nil))))
      (sb_one (ss_ret (es_and (es_eq (u64 hr) (es_repr hg (u64 hr) T.z_repr (es_var 7)) (es_repr hg (u64 hr) T.z_repr (es_lst (el_cons (es_var 6) (el_cons (es_var 6) el_nil))))) (es_one (es_eq (u64 hr) (es_repr hg (u64 hr) T.z_repr (es_var 3)) (es_var 5))))))))))))) (fun ρ Q Xx h => ?_)
  obtain ⟨s, c, rfl, ⟨h1, h2⟩, q⟩ := h
  obtain ⟨p0, p1, p2, rfl, _⟩ := id h1
  refine ⟨⟨rfl, trivial⟩, ?_⟩
  refine sseq fun k1 w1 => ?_
  simp! only []
  refine ⟨_, c, 4, rfl, ⟨h1, by omega, by decide, by decide⟩, fun b ls s1 hk h4 hs1 => ?_⟩
  obtain ⟨p0, p1, p2, rfl, _⟩ := id hs1
  have hb2 := hk.bi.two
  have hb3 := hk.bi.ok.base
  simp! only []
  refine w1 _ (sseq fun k2 w2 => ?_)
  simp! only []
  refine w2 _ (sseq fun k3 w3 => ?_)
  simp! only []
  refine ⟨_, 3, c + 5000, rfl, ⟨hs1, by omega, by decide, by decide⟩, fun r s2 r0 r1 hs2 => ?_⟩
  obtain ⟨p0, p1, p2, rfl, _⟩ := id hs2
  obtain ⟨n, rfl⟩ := Int.eq_ofNat_of_zero_le r0
  simp! only []
  refine ⟨by omega, loopD_inv (fun i ρ => ∃ s X t6 ls', ρ = [s, .fz (kindD b ls), .fz (.int (b : Nat)), X, t6, .no, .no, .no] ∧ (X = .fz (.lst (ls'.map lineL)) ∨ X = .ow (ls'.map lineL)) ∧ PoolAt (c + 6000 + 200 * i) s ∧ BentOk (4 + i) ls') 0 ⟨_, _, _, _, rfl, .inl rfl, hs2.mono (by omega), hk.bent h4⟩ ?_ ?_⟩
  · rintro i x ρ hx ⟨s, X, t6, ls', rfl, hX, hs, hbt⟩ kt hkt
    have hi : i < 3 := by have := (List.getElem?_eq_some_iff.mp hx).1; rw [rangeD_len] at this; omega
    obtain ⟨_, rfl⟩ := rangeD_get hx
    rw [Nat.zero_add] at hs hbt hkt
    obtain ⟨p0, p1, p2, rfl, _⟩ := id hs
    rcases hX with rfl | rfl
    all_goals
      simp! only []
      refine ⟨_, c + 6000 + 200 * i, 4 + i, ls', rfl, ⟨hs, by omega, hbt, by omega⟩, fun ls2 s3 hb2 hs3 => ?_⟩
      obtain ⟨p0, p1, p2, rfl, _⟩ := id hs3
      simp! only []
      exact hkt _ ⟨_, _, _, _, rfl, .inr rfl, hs3.mono (by omega), hb2⟩
  rintro ρ ⟨s, X, t6, ls', rfl, hX, hs, hbt⟩
  rw [Nat.zero_add, rangeD_len] at hs hbt
  have hbt : BentOk 7 ls' := ⟨hbt.ne, hbt.few, fun l hl => (hbt.ln l hl).mono (by omega)⟩
  have ht := hbt.tame (by decide)
  have hsh := hbt.shown (by decide)
  obtain ⟨p0, p1, p2, rfl, _⟩ := id hs
  refine w3 _ (sseq fun k4 w4 => ?_)
  suffices g4 : ∀ (s : SV) (bh : Int), PoolAt (c + 8000) s → bh.natAbs < 2 ^ 200 → k4 [s, .fz (kindD b ls), .fz (.int bh), X, t6, .no, .no, .no] by
    simp! only []
    refine ⟨_, 5, c + 7000, rfl, ⟨hs.mono (by omega), by omega, by decide, by decide⟩, fun u s3 u0 u1 hs3 => ?_⟩
    obtain ⟨p0, p1, p2, rfl, _⟩ := id hs3
    simp! only []
    by_cases hu : u = 0
    · simp! only [decide_eq_true hu, big30]
      refine ⟨pow1030, ?_⟩
      refine ⟨_, 7, c + 7001, rfl, ⟨hs3.mono (by omega), by omega, by decide, by decide⟩, fun v s4 v0 v1 hs4 => ?_⟩
      obtain ⟨p0, p1, p2, rfl, _⟩ := id hs4
      obtain ⟨z, ez, nz⟩ : ∃ z : Int, atI [D.int 0, D.int 1, D.int 4, D.int (-2), D.int 1000000000000000000000000000000, D.int 2, D.int 3] v = some (.int z) ∧ z.natAbs < 2 ^ 200 := by
        obtain rfl | rfl | rfl | rfl | rfl | rfl | rfl : v = 0 ∨ v = 1 ∨ v = 2 ∨ v = 3 ∨ v = 4 ∨ v = 5 ∨ v = 6 := by omega
        · exact ⟨0, rfl, by decide⟩
        · exact ⟨1, rfl, by decide⟩
        · exact ⟨4, rfl, by decide⟩
        · exact ⟨-2, rfl, by decide⟩
        · exact ⟨1000000000000000000000000000000, rfl, by decide⟩
        · exact ⟨2, rfl, by decide⟩
        · exact ⟨3, rfl, by decide⟩
      simp! only [fIxA, fIx, ez]
      exact g4 _ _ (hs4.mono (by omega)) nz
    · simp! only [decide_eq_false hu]
      exact g4 _ _ (hs3.mono (by omega)) (Nat.lt_of_le_of_lt (show _ ≤ 3 by omega) (by decide))
  intro s bh hs hbh
  obtain ⟨p0, p1, p2, rfl, _⟩ := id hs
  refine w4 _ (sseq fun k5 w5 => ?_)
  have dsh := due3_shw (b := bh) hbt hbh
  rcases hX with rfl | rfl
  all_goals
    simp! only []
    refine ⟨hsh, bh, ls', rfl, ht, ?_⟩
    simp! only []
    refine w5 _ (sseq fun k6 w6 => ?_)
    simp! only []
    refine ⟨bh, ls', false, rfl, ht, ?_⟩
    simp! only []
    refine ⟨bh, ls', true, rfl, ht, ?_⟩
    simp! only []
    refine w6 _ ?_
    simp! only []
    refine ⟨shw_22 dsh dsh, shw_22 dsh dsh, ?_⟩
    simp! only [decide_true]
    exact ⟨hsh, q _ (hs.mono (by omega))⟩
def fs_law : FS := fun ρ Q _ => ∃ ns : List Int, ρ = [.fz (scrD ns)] ∧ ns.length ≤ 63 ∧ Q (.v (.bl true)) [.no]
theorem sc_law : FnScope ["script", "spot", "pool", "turn"] ["script"] (defScope s_law) := ⟨rfl, rfl, rfl, by decide +kernel, rfl, by decide +kernel, by decide +kernel⟩
theorem b_law (T : Txt K mg) : Binds K T.u_law ["script"] [] := T.f_law.binds fun _ _ _ _ _ _ us hl => match us, hl with | [_], _ => rfl
theorem ok_law (T : Txt K mg) : FnG P w K mg base 8 T.a_law T.u_law ["script"] (fs_law) := by
  refine fng_of T.f_law sc_law [false] rfl (fun cdv A outer s H E a hr hg => (sb_cons (ss_for (passes_of rfl) rfl (ei_range1 T.z_range (el_cons (es_max2 rfl T.z_max es_int (es_min2 rfl T.z_min es_int (es_len T.z_len (es_var 0)))) el_nil)) (eg_name 1 sc_law.nd) (sb_cons (ss_set 2 sc_law.nd (es_call (ok__law_pool (P := P) T) (hr.mono (by decide)) T.m__law_pool T.f__law_pool.kp (b__law_pool T) tk_cx (ea_cons (es_var 0) (ea_cons (es_var 1) ea_nil))))
      (sb_one (ss_for (passes_of rfl) rfl (ei_range1 T.z_range (el_cons es_int el_nil)) (eg_name 3 sc_law.nd) (sb_one (ss_if (et_not (et_val (es_callG (ok__law_right (P := P) T) hg (hr.mono (by decide)) T.m__law_right T.f__law_right.kp (b__law_right T) tk_cx (ea_lend 2 ea_nil)))) (sb_one (ss_ret es_bl)) sb_nil))))))
      (sb_one (ss_ret es_bl)))) (fun ρ Q Xx h => ?_)
  obtain ⟨ns, rfl, h1, q⟩ := h
  refine ⟨⟨rfl, trivial⟩, ?_⟩
  refine sseq fun k1 w1 => ?_
  simp! only []
  generalize hm : (if (if (ns.length : Int) < 6 then (ns.length : Int) else 6) > 1 then if (ns.length : Int) < 6 then (ns.length : Int) else 6 else 1) = m
  have hm5 : 0 ≤ m ∧ m ≤ 6 := by
    rw [← hm]
    split <;> split <;> omega
  refine ⟨by omega, loopD_inv (fun i ρ => ∃ t1 t2 t3, ρ = [.fz (scrD ns), t1, t2, t3]) 0 ⟨_, _, _, rfl⟩ ?_ ?_⟩
  · rintro i x ρ hx ⟨t1, t2, t3, rfl⟩ kt hk
    obtain ⟨hi, rfl⟩ := rangeD_get hx
    simp! only []
    refine sseq fun j1 v1 => ?_
    simp! only []
    refine ⟨ns, i, by rw [Int.zero_add], ⟨by omega, by omega⟩, fun s hs xs e => ?_⟩
    subst e
    simp! only []
    refine v1 _ ?_
    simp! only []
    refine ⟨by decide, loopD_inv (fun j ρ => ∃ s t1 t3, PoolAt (2 ^ 30 * j) s ∧ ρ = [.fz (scrD ns), t1, s, t3]) 0 ⟨_, _, _, hs.mono (by omega), rfl⟩ ?_ ?_⟩
    · rintro j y ρ hy ⟨s, t1, t3, hs, rfl⟩ kt2 hk2
      rw [Nat.zero_add] at hk2 hs
      obtain ⟨hj, rfl⟩ := rangeD_get hy
      have hj3 : j < 10 := hj
      obtain ⟨p0, p1, p2, rfl, _⟩ := id hs
      simp! only []
      refine ⟨_, 2 ^ 30 * j, rfl, ⟨hs, by omega⟩, fun s' hs' => ?_⟩
      obtain ⟨p0, p1, p2, rfl, _⟩ := id hs'
      simp! only [Bool.not_true]
      exact hk2 _ ⟨_, _, _, hs'.mono (by omega), rfl⟩
    · rintro ρ ⟨s, t1, t3, _, rfl⟩
      exact hk _ ⟨_, _, _, rfl⟩
  · rintro ρ ⟨t1, t2, t3, rfl⟩
    refine w1 _ ?_
    simp! only []
    exact q
end
theorem all_mk {K : PySem.W.Frag} {h : Heap} {mg : Str → Option Value} {fa : Addr} {f_Book : Addr} {f__law_pool : Addr} {od__law_pool an__law_pool : Option Addr} {sl__law_pool : Array (Option Value)} {oc__law_pool kV__law_pool dc__law_pool pm__law_pool cd__law_pool ct__law_pool : Value} {f__law_draw : Addr} {od__law_draw an__law_draw : Option Addr} {sl__law_draw : Array (Option Value)} {oc__law_draw kV__law_draw dc__law_draw pm__law_draw cd__law_draw ct__law_draw : Value} {f__law_factor : Addr} {od__law_factor an__law_factor : Option Addr} {sl__law_factor : Array (Option Value)} {oc__law_factor kV__law_factor dc__law_factor pm__law_factor cd__law_factor ct__law_factor : Value} {f__law_pane : Addr} {od__law_pane an__law_pane : Option Addr} {sl__law_pane : Array (Option Value)} {oc__law_pane kV__law_pane dc__law_pane pm__law_pane cd__law_pane ct__law_pane : Value} {f__law_kind : Addr} {od__law_kind an__law_kind : Option Addr} {sl__law_kind : Array (Option Value)} {oc__law_kind kV__law_kind dc__law_kind pm__law_kind cd__law_kind ct__law_kind : Value} {f__law_bent : Addr} {od__law_bent an__law_bent : Option Addr} {sl__law_bent : Array (Option Value)} {oc__law_bent kV__law_bent dc__law_bent pm__law_bent cd__law_bent ct__law_bent : Value} {f__law_due : Addr} {od__law_due an__law_due : Option Addr} {sl__law_due : Array (Option Value)} {oc__law_due kV__law_due dc__law_due pm__law_due cd__law_due ct__law_due : Value} {f_is_name : Addr} {od_is_name an_is_name : Option Addr} {sl_is_name : Array (Option Value)} {oc_is_name kV_is_name dc_is_name pm_is_name cd_is_name ct_is_name : Value} {f_check_names : Addr} {od_check_names an_check_names : Option Addr} {sl_check_names : Array (Option Value)} {oc_check_names kV_check_names dc_check_names pm_check_names cd_check_names ct_check_names : Value} {f_is_square : Addr} {od_is_square an_is_square : Option Addr} {sl_is_square : Array (Option Value)} {oc_is_square kV_is_square dc_is_square pm_is_square cd_is_square ct_is_square : Value} {f_check_blocks : Addr} {od_check_blocks an_check_blocks : Option Addr} {sl_check_blocks : Array (Option Value)} {oc_check_blocks kV_check_blocks dc_check_blocks pm_check_blocks cd_check_blocks ct_check_blocks : Value} {f_kept_blocks : Addr} {od_kept_blocks an_kept_blocks : Option Addr} {sl_kept_blocks : Array (Option Value)} {oc_kept_blocks kV_kept_blocks dc_kept_blocks pm_kept_blocks cd_kept_blocks ct_kept_blocks : Value} {f_Book_init : Addr} {od_Book_init an_Book_init : Option Addr} {sl_Book_init : Array (Option Value)} {oc_Book_init kV_Book_init dc_Book_init pm_Book_init cd_Book_init ct_Book_init : Value} {f__law_caught : Addr} {od__law_caught an__law_caught : Option Addr} {sl__law_caught : Array (Option Value)} {oc__law_caught kV__law_caught dc__law_caught pm__law_caught cd__law_caught ct__law_caught : Value} {f__law_right : Addr} {od__law_right an__law_right : Option Addr} {sl__law_right : Array (Option Value)} {oc__law_right kV__law_right dc__law_right pm__law_right cd__law_right ct__law_right : Value} {f_law : Addr} {od_law an_law : Option Addr} {sl_law : Array (Option Value)} {oc_law kV_law dc_law pm_law cd_law ct_law : Value} {f_BlockError : Addr} {f_InvalidBase : Addr} {f_InvalidBlocks : Addr} {f_InvalidName : Addr} {f_InvalidArea : Addr} {f_InvalidLevel : Addr} {f_InvalidNumber : Addr} {f_InvalidPlace : Addr} {f_InvalidRest : Addr} {f_NothingToUndo : Addr} {f_TooWide : Addr} {f_UnlikeBases : Addr} {f_Unreadable : Addr} {f_xi cda_x cc_x : Addr} {qx_x file_x : Str} {par_x : Arguments} {sco_x : Scope} {dV_x kV_x doc_x pm_x ct_x oc_x ccl_x cl_x : Value} {an_x od_x cdd_x cld_x : Option Addr} {osl_x ccs_x csl_x : Array (Option Value)} {vs_x : Array Value} {tf_x : Tok} {p0_x p1_x p2_x p3_x p4_x p5_x p6_x p7_x p8_x p9_x : Pos} {cdD_x : ClassData} {ar_x : Arg} {pl_x : Env → Sem Bool} {nm_InvalidBase q_InvalidBase : Str} {N_InvalidBase : Addr} {bs_InvalidBase bm_InvalidBase : List Value} {sn_InvalidBase : List Str} {sub_InvalidBase : List Value} {ab_InvalidBase : Bool} {col_InvalidBase : Option Bool} {dd_InvalidBase : Option Addr} {k0_InvalidBase k1_InvalidBase k2_InvalidBase k3_InvalidBase k5_InvalidBase : Option Value} {nm_InvalidBlocks q_InvalidBlocks : Str} {N_InvalidBlocks : Addr} {bs_InvalidBlocks bm_InvalidBlocks : List Value} {sn_InvalidBlocks : List Str} {sub_InvalidBlocks : List Value} {ab_InvalidBlocks : Bool} {col_InvalidBlocks : Option Bool} {dd_InvalidBlocks : Option Addr} {k0_InvalidBlocks k1_InvalidBlocks k2_InvalidBlocks k3_InvalidBlocks k5_InvalidBlocks : Option Value} {nm_InvalidName q_InvalidName : Str} {N_InvalidName : Addr} {bs_InvalidName bm_InvalidName : List Value} {sn_InvalidName : List Str} {sub_InvalidName : List Value} {ab_InvalidName : Bool} {col_InvalidName : Option Bool} {dd_InvalidName : Option Addr} {k0_InvalidName k1_InvalidName k2_InvalidName k3_InvalidName k5_InvalidName : Option Value} {b_BASES nB_BASES : Nat} {od_BASES : Option Addr} {sl_BASES : Array (Option Value)} {t0_BASES : Tok} {t1_BASES : Tok} {t_LETTERS : Tok}
    (X : K.In h) (G : h.Ns mainGlobals mg) (hfa : mg "law" = some (.ref fa))
    (aC_Book : PySem.W.nsIn K mainGlobals "Book" = some (some (.ref f_Book)))
    (pg_Book : PySem.W.plainGet K f_Book Str.empty = true)
    (hd_Book : PySem.W.hasDictIn K f_Book = true)
    (po_Book : PySem.W.plainOver K f_Book = true)
    (sa_Book : PySem.W.findIn K (.ref f_Book) "__setattr__" = some (some (.builtin "object.__setattr__")))
    (mk_Book : PySem.W.makesIn K f_Book = true)
    (kc_Book : PySem.W.keepIn K (.ref f_Book) = true)
    (g__law_pool : PySem.W.nsIn K mainGlobals "_law_pool" = some (some (.ref f__law_pool)))
    (l__law_pool : K.lookup f__law_pool = some ⟨oc__law_pool, od__law_pool, .func (PySem.W.fnOf "_law_pool" "_law_pool" (defArgs s__law_pool) (defBody s__law_pool) (defScope s__law_pool) .none kV__law_pool dc__law_pool pm__law_pool an__law_pool cd__law_pool ct__law_pool), sl__law_pool⟩)
    (c__law_pool : PySem.W.codeIn K cd__law_pool "_law_pool" = true)
    (k__law_pool : PySem.W.keepIn K (.ref f__law_pool) = true)
    (g__law_draw : PySem.W.nsIn K mainGlobals "_law_draw" = some (some (.ref f__law_draw)))
    (l__law_draw : K.lookup f__law_draw = some ⟨oc__law_draw, od__law_draw, .func (PySem.W.fnOf "_law_draw" "_law_draw" (defArgs s__law_draw) (defBody s__law_draw) (defScope s__law_draw) .none kV__law_draw dc__law_draw pm__law_draw an__law_draw cd__law_draw ct__law_draw), sl__law_draw⟩)
    (c__law_draw : PySem.W.codeIn K cd__law_draw "_law_draw" = true)
    (k__law_draw : PySem.W.keepIn K (.ref f__law_draw) = true)
    (g__law_factor : PySem.W.nsIn K mainGlobals "_law_factor" = some (some (.ref f__law_factor)))
    (l__law_factor : K.lookup f__law_factor = some ⟨oc__law_factor, od__law_factor, .func (PySem.W.fnOf "_law_factor" "_law_factor" (defArgs s__law_factor) (defBody s__law_factor) (defScope s__law_factor) .none kV__law_factor dc__law_factor pm__law_factor an__law_factor cd__law_factor ct__law_factor), sl__law_factor⟩)
    (c__law_factor : PySem.W.codeIn K cd__law_factor "_law_factor" = true)
    (k__law_factor : PySem.W.keepIn K (.ref f__law_factor) = true)
    (g__law_pane : PySem.W.nsIn K mainGlobals "_law_pane" = some (some (.ref f__law_pane)))
    (l__law_pane : K.lookup f__law_pane = some ⟨oc__law_pane, od__law_pane, .func (PySem.W.fnOf "_law_pane" "_law_pane" (defArgs s__law_pane) (defBody s__law_pane) (defScope s__law_pane) .none kV__law_pane dc__law_pane pm__law_pane an__law_pane cd__law_pane ct__law_pane), sl__law_pane⟩)
    (c__law_pane : PySem.W.codeIn K cd__law_pane "_law_pane" = true)
    (k__law_pane : PySem.W.keepIn K (.ref f__law_pane) = true)
    (g__law_kind : PySem.W.nsIn K mainGlobals "_law_kind" = some (some (.ref f__law_kind)))
    (l__law_kind : K.lookup f__law_kind = some ⟨oc__law_kind, od__law_kind, .func (PySem.W.fnOf "_law_kind" "_law_kind" (defArgs s__law_kind) (defBody s__law_kind) (defScope s__law_kind) .none kV__law_kind dc__law_kind pm__law_kind an__law_kind cd__law_kind ct__law_kind), sl__law_kind⟩)
    (c__law_kind : PySem.W.codeIn K cd__law_kind "_law_kind" = true)
    (k__law_kind : PySem.W.keepIn K (.ref f__law_kind) = true)
    (g__law_bent : PySem.W.nsIn K mainGlobals "_law_bent" = some (some (.ref f__law_bent)))
    (l__law_bent : K.lookup f__law_bent = some ⟨oc__law_bent, od__law_bent, .func (PySem.W.fnOf "_law_bent" "_law_bent" (defArgs s__law_bent) (defBody s__law_bent) (defScope s__law_bent) .none kV__law_bent dc__law_bent pm__law_bent an__law_bent cd__law_bent ct__law_bent), sl__law_bent⟩)
    (c__law_bent : PySem.W.codeIn K cd__law_bent "_law_bent" = true)
    (k__law_bent : PySem.W.keepIn K (.ref f__law_bent) = true)
    (g__law_due : PySem.W.nsIn K mainGlobals "_law_due" = some (some (.ref f__law_due)))
    (l__law_due : K.lookup f__law_due = some ⟨oc__law_due, od__law_due, .func (PySem.W.fnOf "_law_due" "_law_due" (defArgs s__law_due) (defBody s__law_due) (defScope s__law_due) .none kV__law_due dc__law_due pm__law_due an__law_due cd__law_due ct__law_due), sl__law_due⟩)
    (c__law_due : PySem.W.codeIn K cd__law_due "_law_due" = true)
    (k__law_due : PySem.W.keepIn K (.ref f__law_due) = true)
    (g_is_name : PySem.W.nsIn K mainGlobals "is_name" = some (some (.ref f_is_name)))
    (l_is_name : K.lookup f_is_name = some ⟨oc_is_name, od_is_name, .func (PySem.W.fnOf "is_name" "is_name" (defArgs s_is_name) (defBody s_is_name) (defScope s_is_name) .none kV_is_name dc_is_name pm_is_name an_is_name cd_is_name ct_is_name), sl_is_name⟩)
    (c_is_name : PySem.W.codeIn K cd_is_name "is_name" = true)
    (k_is_name : PySem.W.keepIn K (.ref f_is_name) = true)
    (g_check_names : PySem.W.nsIn K mainGlobals "check_names" = some (some (.ref f_check_names)))
    (l_check_names : K.lookup f_check_names = some ⟨oc_check_names, od_check_names, .func (PySem.W.fnOf "check_names" "check_names" (defArgs s_check_names) (defBody s_check_names) (defScope s_check_names) .none kV_check_names dc_check_names pm_check_names an_check_names cd_check_names ct_check_names), sl_check_names⟩)
    (c_check_names : PySem.W.codeIn K cd_check_names "check_names" = true)
    (k_check_names : PySem.W.keepIn K (.ref f_check_names) = true)
    (g_is_square : PySem.W.nsIn K mainGlobals "is_square" = some (some (.ref f_is_square)))
    (l_is_square : K.lookup f_is_square = some ⟨oc_is_square, od_is_square, .func (PySem.W.fnOf "is_square" "is_square" (defArgs s_is_square) (defBody s_is_square) (defScope s_is_square) .none kV_is_square dc_is_square pm_is_square an_is_square cd_is_square ct_is_square), sl_is_square⟩)
    (c_is_square : PySem.W.codeIn K cd_is_square "is_square" = true)
    (k_is_square : PySem.W.keepIn K (.ref f_is_square) = true)
    (g_check_blocks : PySem.W.nsIn K mainGlobals "check_blocks" = some (some (.ref f_check_blocks)))
    (l_check_blocks : K.lookup f_check_blocks = some ⟨oc_check_blocks, od_check_blocks, .func (PySem.W.fnOf "check_blocks" "check_blocks" (defArgs s_check_blocks) (defBody s_check_blocks) (defScope s_check_blocks) .none kV_check_blocks dc_check_blocks pm_check_blocks an_check_blocks cd_check_blocks ct_check_blocks), sl_check_blocks⟩)
    (c_check_blocks : PySem.W.codeIn K cd_check_blocks "check_blocks" = true)
    (k_check_blocks : PySem.W.keepIn K (.ref f_check_blocks) = true)
    (g_kept_blocks : PySem.W.nsIn K mainGlobals "kept_blocks" = some (some (.ref f_kept_blocks)))
    (l_kept_blocks : K.lookup f_kept_blocks = some ⟨oc_kept_blocks, od_kept_blocks, .func (PySem.W.fnOf "kept_blocks" "kept_blocks" (defArgs s_kept_blocks) (defBody s_kept_blocks) (defScope s_kept_blocks) .none kV_kept_blocks dc_kept_blocks pm_kept_blocks an_kept_blocks cd_kept_blocks ct_kept_blocks), sl_kept_blocks⟩)
    (c_kept_blocks : PySem.W.codeIn K cd_kept_blocks "kept_blocks" = true)
    (k_kept_blocks : PySem.W.keepIn K (.ref f_kept_blocks) = true)
    (g_Book_init : PySem.W.findIn K (.ref f_Book) "__init__" = some (some (.ref f_Book_init)))
    (i_Book_init : PySem.W.isFn K (.ref f_Book_init) = true)
    (l_Book_init : K.lookup f_Book_init = some ⟨oc_Book_init, od_Book_init, .func (PySem.W.fnOf "__init__" "Book.__init__" (defArgs s_Book_init) (defBody s_Book_init) (defScope s_Book_init) .none kV_Book_init dc_Book_init pm_Book_init an_Book_init cd_Book_init ct_Book_init), sl_Book_init⟩)
    (c_Book_init : PySem.W.codeIn K cd_Book_init "Book.__init__" = true)
    (k_Book_init : PySem.W.keepIn K (.ref f_Book_init) = true)
    (g__law_caught : PySem.W.nsIn K mainGlobals "_law_caught" = some (some (.ref f__law_caught)))
    (l__law_caught : K.lookup f__law_caught = some ⟨oc__law_caught, od__law_caught, .func (PySem.W.fnOf "_law_caught" "_law_caught" (defArgs s__law_caught) (defBody s__law_caught) (defScope s__law_caught) .none kV__law_caught dc__law_caught pm__law_caught an__law_caught cd__law_caught ct__law_caught), sl__law_caught⟩)
    (c__law_caught : PySem.W.codeIn K cd__law_caught "_law_caught" = true)
    (k__law_caught : PySem.W.keepIn K (.ref f__law_caught) = true)
    (g__law_right : PySem.W.nsIn K mainGlobals "_law_right" = some (some (.ref f__law_right)))
    (l__law_right : K.lookup f__law_right = some ⟨oc__law_right, od__law_right, .func (PySem.W.fnOf "_law_right" "_law_right" (defArgs s__law_right) (defBody s__law_right) (defScope s__law_right) .none kV__law_right dc__law_right pm__law_right an__law_right cd__law_right ct__law_right), sl__law_right⟩)
    (c__law_right : PySem.W.codeIn K cd__law_right "_law_right" = true)
    (k__law_right : PySem.W.keepIn K (.ref f__law_right) = true)
    (g_law : PySem.W.nsIn K mainGlobals "law" = some (some (.ref f_law)))
    (l_law : K.lookup f_law = some ⟨oc_law, od_law, .func (PySem.W.fnOf "law" "law" (defArgs s_law) (defBody s_law) (defScope s_law) .none kV_law dc_law pm_law an_law cd_law ct_law), sl_law⟩)
    (c_law : PySem.W.codeIn K cd_law "law" = true)
    (k_law : PySem.W.keepIn K (.ref f_law) = true)
    (gx_BlockError : PySem.W.nsIn K mainGlobals "BlockError" = some (some (.ref f_BlockError)))
    (gx_InvalidBase : PySem.W.nsIn K mainGlobals "InvalidBase" = some (some (.ref f_InvalidBase)))
    (gx_InvalidBlocks : PySem.W.nsIn K mainGlobals "InvalidBlocks" = some (some (.ref f_InvalidBlocks)))
    (gx_InvalidName : PySem.W.nsIn K mainGlobals "InvalidName" = some (some (.ref f_InvalidName)))
    (gx_InvalidArea : PySem.W.nsIn K mainGlobals "InvalidArea" = some (some (.ref f_InvalidArea)))
    (gx_InvalidLevel : PySem.W.nsIn K mainGlobals "InvalidLevel" = some (some (.ref f_InvalidLevel)))
    (gx_InvalidNumber : PySem.W.nsIn K mainGlobals "InvalidNumber" = some (some (.ref f_InvalidNumber)))
    (gx_InvalidPlace : PySem.W.nsIn K mainGlobals "InvalidPlace" = some (some (.ref f_InvalidPlace)))
    (gx_InvalidRest : PySem.W.nsIn K mainGlobals "InvalidRest" = some (some (.ref f_InvalidRest)))
    (gx_NothingToUndo : PySem.W.nsIn K mainGlobals "NothingToUndo" = some (some (.ref f_NothingToUndo)))
    (gx_TooWide : PySem.W.nsIn K mainGlobals "TooWide" = some (some (.ref f_TooWide)))
    (gx_UnlikeBases : PySem.W.nsIn K mainGlobals "UnlikeBases" = some (some (.ref f_UnlikeBases)))
    (gx_Unreadable : PySem.W.nsIn K mainGlobals "Unreadable" = some (some (.ref f_Unreadable)))
    (gxi : PySem.W.findIn K (.ref f_BlockError) "__init__" = some (some (.ref f_xi)))
    (lxi : K.lookup f_xi = some ⟨oc_x, od_x, .func (PySem.W.ksFn "__init__" qx_x par_x (BX.xBody p0_x p1_x p2_x p3_x p4_x p5_x p6_x p7_x p8_x p9_x) sco_x dV_x kV_x doc_x pm_x an_x (.ref cda_x) ct_x cc_x), osl_x⟩)
    (cxi : PySem.W.codeIn K (.ref cda_x) qx_x = true)
    (lcda : K.lookup cda_x = some ⟨ccl_x, cdd_x, .fields vs_x, ccs_x⟩)
    (vs2 : vs_x[2]? = some (.str file_x tf_x))
    (fil : ((P0.main.file : Str) == file_x) = true)
    (lcc : K.lookup cc_x = some ⟨cl_x, cld_x, .cell (some (.ref f_BlockError)), csl_x⟩)
    (clD : PySem.W.clsIn K f_BlockError = some cdD_x)
    (sta : PySem.W.nsIn K cStatics "thirdparty.any" = some none)
    (sup : PySem.W.nsIn K mainGlobals "super" = some none)
    (hp : (par_x.posonlyargs ++ par_x.args).head? = some ar_x)
    (har : ar_x.arg = ("self" : Str))
    (hks : sco_x.names.lookup ("super" : Str) = some .globalImplicit)
    (hkc : sco_x.names.lookup ("__class__" : Str) = some .free)
    (hka : sco_x.names.lookup ("self" : Str) = some .local)
    (hkv : sco_x.names.lookup ("value" : Str) = some .local)
    (hk : sco_x.kind = .function)
    (hco : sco_x.isCoroutine = false)
    (hgen : sco_x.isGenerator = false)
    (hce : ∀ x ∈ sco_x.names, x.2 ≠ .cell)
    (hev : ∀ env : Env, eval (.Call (.Attribute (.Call (.Name "super" p0_x) [] [] p1_x) "__init__" p2_x) [.Name "value" p3_x] [] p4_x) env = (do
      let ov ← attributeBase (.Call (.Name "super" p0_x) [] [] p1_x) "__init__" env (eval (.Call (.Name "super" p0_x) [] [] p1_x) env)
      standAt p2_x.atName
      let (f, first) ← holding [ov] (getMethod ov "__init__" (pl_x env))
      callWith p4_x f first (backTo p4_x (starEach [.Name "value" p3_x] env)) []))
    (hxb : bindArgs (PySem.W.ksFn "__init__" qx_x par_x (BX.xBody p0_x p1_x p2_x p3_x p4_x p5_x p6_x p7_x p8_x p9_x) sco_x dV_x kV_x doc_x pm_x an_x (.ref cda_x) ct_x cc_x) = bindArgs (PySem.W.ksFn "__init__" qx_x par_x (BX.xBody p0_x p1_x p2_x p3_x p4_x p5_x p6_x p7_x p8_x p9_x) sco_x dV_x kV_x doc_x pm_x an_x (.ref cda_x) ct_x cc_x) ∧ ∀ a b : Value, bindArgs (PySem.W.ksFn "__init__" qx_x par_x (BX.xBody p0_x p1_x p2_x p3_x p4_x p5_x p6_x p7_x p8_x p9_x) sco_x dV_x kV_x doc_x pm_x an_x (.ref cda_x) ct_x cc_x) ⟨[a, b], []⟩ = pure [(("self" : Str), a), (("value" : Str), b)])
    (tix : PySem.W.typeIn K (.ref f_xi) = some (.type "function"))
    (exD : PySem.W.subIn K (.ref f_BlockError) (.type "BaseException") = some true)
    (hdD : PySem.W.hasDictIn K f_BlockError = true)
    (tyD : PySem.W.typeIn K (.ref f_BlockError) = some (.type "type"))
    (spx : PySem.W.specialIn K (.builtin "object.__class__") "__get__" = some (some (.builtin "getset_descriptor.__get__")))
    (tkx : PySem.W.takesIn K (.builtin "object.__class__") = some true)
    (lk_InvalidBase : K.lookup f_InvalidBase = some (excClassObj nm_InvalidBase q_InvalidBase f_InvalidBase N_InvalidBase bs_InvalidBase bm_InvalidBase true sn_InvalidBase sub_InvalidBase ab_InvalidBase col_InvalidBase dd_InvalidBase k0_InvalidBase k1_InvalidBase k2_InvalidBase k3_InvalidBase k5_InvalidBase "ValueError.__new__"))
    (bm_InvalidBase : PySem.HandSPX.refsVE bm_InvalidBase = true)
    (xsa_InvalidBase : PySem.W.findIn K (.ref f_InvalidBase) "__setattr__" = some (some (.builtin "object.__setattr__")))
    (xex_InvalidBase : PySem.W.subIn K (.ref f_InvalidBase) (.type "BaseException") = some true)
    (xty_InvalidBase : PySem.W.typeIn K (.ref f_InvalidBase) = some (.type "type"))
    (xkp_InvalidBase : PySem.W.keepIn K (.ref f_InvalidBase) = true)
    (xva_InvalidBase : PySem.W.findIn K (.ref f_InvalidBase) "value" = some none)
    (xmr_InvalidBase : PySem.W.mroIn K f_InvalidBase (.ref f_BlockError) = some true)
    (xsu_InvalidBase : PySem.W.ks_superIn K f_InvalidBase f_BlockError "__init__" = some (some (.builtin "ValueError.__init__")))
    (xve_InvalidBase : PySem.W.subIn K (.ref f_InvalidBase) (.type "ValueError") = some true)
    (xga_InvalidBase : PySem.W.findIn K (.ref f_InvalidBase) "__getattribute__" = some (some (.builtin "BaseException.__getattribute__")))
    (xgg_InvalidBase : PySem.W.findIn K (.ref f_InvalidBase) "__getattr__" = some none)
    (xca_InvalidBase : PySem.W.findIn K (.ref f_InvalidBase) "__class__" = some (some (.builtin "object.__class__")))
    (xob_InvalidBase : PySem.W.mroIn K f_InvalidBase (.type "object") = some true)
    (xhd_InvalidBase : PySem.W.hasDictIn K f_InvalidBase = true)
    (xii_InvalidBase : PySem.W.findIn K (.ref f_InvalidBase) "__init__" = some (some (.ref f_xi)))
    (xem_InvalidBase : PySem.W.subIn K (.ref f_InvalidBase) (.ref f_BlockError) = some true)
    (xko_InvalidBase_InvalidArea : PySem.W.kitOne K (.ref f_InvalidBase) (.ref f_InvalidArea) = some false)
    (xko_InvalidBase_InvalidLevel : PySem.W.kitOne K (.ref f_InvalidBase) (.ref f_InvalidLevel) = some false)
    (xko_InvalidBase_InvalidNumber : PySem.W.kitOne K (.ref f_InvalidBase) (.ref f_InvalidNumber) = some false)
    (xko_InvalidBase_InvalidPlace : PySem.W.kitOne K (.ref f_InvalidBase) (.ref f_InvalidPlace) = some false)
    (xko_InvalidBase_InvalidRest : PySem.W.kitOne K (.ref f_InvalidBase) (.ref f_InvalidRest) = some false)
    (xko_InvalidBase_NothingToUndo : PySem.W.kitOne K (.ref f_InvalidBase) (.ref f_NothingToUndo) = some false)
    (xko_InvalidBase_TooWide : PySem.W.kitOne K (.ref f_InvalidBase) (.ref f_TooWide) = some false)
    (xko_InvalidBase_UnlikeBases : PySem.W.kitOne K (.ref f_InvalidBase) (.ref f_UnlikeBases) = some false)
    (xko_InvalidBase_Unreadable : PySem.W.kitOne K (.ref f_InvalidBase) (.ref f_Unreadable) = some false)
    (xko_InvalidBase_InvalidBase : PySem.W.kitOne K (.ref f_InvalidBase) (.ref f_InvalidBase) = some true)
    (xko_InvalidBase_InvalidName : PySem.W.kitOne K (.ref f_InvalidBase) (.ref f_InvalidName) = some false)
    (xko_InvalidBase_InvalidBlocks : PySem.W.kitOne K (.ref f_InvalidBase) (.ref f_InvalidBlocks) = some false)
    (xkv_InvalidBase : PySem.W.kitOne K (.ref f_InvalidBase) (.type "ValueError") = some true)
    (lk_InvalidBlocks : K.lookup f_InvalidBlocks = some (excClassObj nm_InvalidBlocks q_InvalidBlocks f_InvalidBlocks N_InvalidBlocks bs_InvalidBlocks bm_InvalidBlocks true sn_InvalidBlocks sub_InvalidBlocks ab_InvalidBlocks col_InvalidBlocks dd_InvalidBlocks k0_InvalidBlocks k1_InvalidBlocks k2_InvalidBlocks k3_InvalidBlocks k5_InvalidBlocks "ValueError.__new__"))
    (bm_InvalidBlocks : PySem.HandSPX.refsVE bm_InvalidBlocks = true)
    (xsa_InvalidBlocks : PySem.W.findIn K (.ref f_InvalidBlocks) "__setattr__" = some (some (.builtin "object.__setattr__")))
    (xex_InvalidBlocks : PySem.W.subIn K (.ref f_InvalidBlocks) (.type "BaseException") = some true)
    (xty_InvalidBlocks : PySem.W.typeIn K (.ref f_InvalidBlocks) = some (.type "type"))
    (xkp_InvalidBlocks : PySem.W.keepIn K (.ref f_InvalidBlocks) = true)
    (xva_InvalidBlocks : PySem.W.findIn K (.ref f_InvalidBlocks) "value" = some none)
    (xmr_InvalidBlocks : PySem.W.mroIn K f_InvalidBlocks (.ref f_BlockError) = some true)
    (xsu_InvalidBlocks : PySem.W.ks_superIn K f_InvalidBlocks f_BlockError "__init__" = some (some (.builtin "ValueError.__init__")))
    (xve_InvalidBlocks : PySem.W.subIn K (.ref f_InvalidBlocks) (.type "ValueError") = some true)
    (xga_InvalidBlocks : PySem.W.findIn K (.ref f_InvalidBlocks) "__getattribute__" = some (some (.builtin "BaseException.__getattribute__")))
    (xgg_InvalidBlocks : PySem.W.findIn K (.ref f_InvalidBlocks) "__getattr__" = some none)
    (xca_InvalidBlocks : PySem.W.findIn K (.ref f_InvalidBlocks) "__class__" = some (some (.builtin "object.__class__")))
    (xob_InvalidBlocks : PySem.W.mroIn K f_InvalidBlocks (.type "object") = some true)
    (xhd_InvalidBlocks : PySem.W.hasDictIn K f_InvalidBlocks = true)
    (xii_InvalidBlocks : PySem.W.findIn K (.ref f_InvalidBlocks) "__init__" = some (some (.ref f_xi)))
    (xem_InvalidBlocks : PySem.W.subIn K (.ref f_InvalidBlocks) (.ref f_BlockError) = some true)
    (xko_InvalidBlocks_InvalidArea : PySem.W.kitOne K (.ref f_InvalidBlocks) (.ref f_InvalidArea) = some false)
    (xko_InvalidBlocks_InvalidLevel : PySem.W.kitOne K (.ref f_InvalidBlocks) (.ref f_InvalidLevel) = some false)
    (xko_InvalidBlocks_InvalidNumber : PySem.W.kitOne K (.ref f_InvalidBlocks) (.ref f_InvalidNumber) = some false)
    (xko_InvalidBlocks_InvalidPlace : PySem.W.kitOne K (.ref f_InvalidBlocks) (.ref f_InvalidPlace) = some false)
    (xko_InvalidBlocks_InvalidRest : PySem.W.kitOne K (.ref f_InvalidBlocks) (.ref f_InvalidRest) = some false)
    (xko_InvalidBlocks_NothingToUndo : PySem.W.kitOne K (.ref f_InvalidBlocks) (.ref f_NothingToUndo) = some false)
    (xko_InvalidBlocks_TooWide : PySem.W.kitOne K (.ref f_InvalidBlocks) (.ref f_TooWide) = some false)
    (xko_InvalidBlocks_UnlikeBases : PySem.W.kitOne K (.ref f_InvalidBlocks) (.ref f_UnlikeBases) = some false)
    (xko_InvalidBlocks_Unreadable : PySem.W.kitOne K (.ref f_InvalidBlocks) (.ref f_Unreadable) = some false)
    (xko_InvalidBlocks_InvalidBase : PySem.W.kitOne K (.ref f_InvalidBlocks) (.ref f_InvalidBase) = some false)
    (xko_InvalidBlocks_InvalidName : PySem.W.kitOne K (.ref f_InvalidBlocks) (.ref f_InvalidName) = some false)
    (xko_InvalidBlocks_InvalidBlocks : PySem.W.kitOne K (.ref f_InvalidBlocks) (.ref f_InvalidBlocks) = some true)
    (xkv_InvalidBlocks : PySem.W.kitOne K (.ref f_InvalidBlocks) (.type "ValueError") = some true)
    (lk_InvalidName : K.lookup f_InvalidName = some (excClassObj nm_InvalidName q_InvalidName f_InvalidName N_InvalidName bs_InvalidName bm_InvalidName true sn_InvalidName sub_InvalidName ab_InvalidName col_InvalidName dd_InvalidName k0_InvalidName k1_InvalidName k2_InvalidName k3_InvalidName k5_InvalidName "ValueError.__new__"))
    (bm_InvalidName : PySem.HandSPX.refsVE bm_InvalidName = true)
    (xsa_InvalidName : PySem.W.findIn K (.ref f_InvalidName) "__setattr__" = some (some (.builtin "object.__setattr__")))
    (xex_InvalidName : PySem.W.subIn K (.ref f_InvalidName) (.type "BaseException") = some true)
    (xty_InvalidName : PySem.W.typeIn K (.ref f_InvalidName) = some (.type "type"))
    (xkp_InvalidName : PySem.W.keepIn K (.ref f_InvalidName) = true)
    (xva_InvalidName : PySem.W.findIn K (.ref f_InvalidName) "value" = some none)
    (xmr_InvalidName : PySem.W.mroIn K f_InvalidName (.ref f_BlockError) = some true)
    (xsu_InvalidName : PySem.W.ks_superIn K f_InvalidName f_BlockError "__init__" = some (some (.builtin "ValueError.__init__")))
    (xve_InvalidName : PySem.W.subIn K (.ref f_InvalidName) (.type "ValueError") = some true)
    (xga_InvalidName : PySem.W.findIn K (.ref f_InvalidName) "__getattribute__" = some (some (.builtin "BaseException.__getattribute__")))
    (xgg_InvalidName : PySem.W.findIn K (.ref f_InvalidName) "__getattr__" = some none)
    (xca_InvalidName : PySem.W.findIn K (.ref f_InvalidName) "__class__" = some (some (.builtin "object.__class__")))
    (xob_InvalidName : PySem.W.mroIn K f_InvalidName (.type "object") = some true)
    (xhd_InvalidName : PySem.W.hasDictIn K f_InvalidName = true)
    (xii_InvalidName : PySem.W.findIn K (.ref f_InvalidName) "__init__" = some (some (.ref f_xi)))
    (xem_InvalidName : PySem.W.subIn K (.ref f_InvalidName) (.ref f_BlockError) = some true)
    (xko_InvalidName_InvalidArea : PySem.W.kitOne K (.ref f_InvalidName) (.ref f_InvalidArea) = some false)
    (xko_InvalidName_InvalidLevel : PySem.W.kitOne K (.ref f_InvalidName) (.ref f_InvalidLevel) = some false)
    (xko_InvalidName_InvalidNumber : PySem.W.kitOne K (.ref f_InvalidName) (.ref f_InvalidNumber) = some false)
    (xko_InvalidName_InvalidPlace : PySem.W.kitOne K (.ref f_InvalidName) (.ref f_InvalidPlace) = some false)
    (xko_InvalidName_InvalidRest : PySem.W.kitOne K (.ref f_InvalidName) (.ref f_InvalidRest) = some false)
    (xko_InvalidName_NothingToUndo : PySem.W.kitOne K (.ref f_InvalidName) (.ref f_NothingToUndo) = some false)
    (xko_InvalidName_TooWide : PySem.W.kitOne K (.ref f_InvalidName) (.ref f_TooWide) = some false)
    (xko_InvalidName_UnlikeBases : PySem.W.kitOne K (.ref f_InvalidName) (.ref f_UnlikeBases) = some false)
    (xko_InvalidName_Unreadable : PySem.W.kitOne K (.ref f_InvalidName) (.ref f_Unreadable) = some false)
    (xko_InvalidName_InvalidBase : PySem.W.kitOne K (.ref f_InvalidName) (.ref f_InvalidBase) = some false)
    (xko_InvalidName_InvalidName : PySem.W.kitOne K (.ref f_InvalidName) (.ref f_InvalidName) = some true)
    (xko_InvalidName_InvalidBlocks : PySem.W.kitOne K (.ref f_InvalidName) (.ref f_InvalidBlocks) = some false)
    (xkv_InvalidName : PySem.W.kitOne K (.ref f_InvalidName) (.type "ValueError") = some true)
    (n_Book_kept : PySem.W.findIn K (.ref f_Book) "kept" = some none)
    (n_Book_radix : PySem.W.findIn K (.ref f_Book) "radix" = some none)
    (z_ValueError : PySem.W.nsIn K mainGlobals "ValueError" = some none)
    (z_abs : PySem.W.nsIn K mainGlobals "abs" = some none)
    (z_all : PySem.W.nsIn K mainGlobals "all" = some none)
    (z_enumerate : PySem.W.nsIn K mainGlobals "enumerate" = some none)
    (z_int : PySem.W.nsIn K mainGlobals "int" = some none)
    (z_isinstance : PySem.W.nsIn K mainGlobals "isinstance" = some none)
    (z_len : PySem.W.nsIn K mainGlobals "len" = some none)
    (z_list : PySem.W.nsIn K mainGlobals "list" = some none)
    (z_max : PySem.W.nsIn K mainGlobals "max" = some none)
    (z_min : PySem.W.nsIn K mainGlobals "min" = some none)
    (z_range : PySem.W.nsIn K mainGlobals "range" = some none)
    (z_repr : PySem.W.nsIn K mainGlobals "repr" = some none)
    (z_tuple : PySem.W.nsIn K mainGlobals "tuple" = some none)
    (g_BASES : PySem.W.nsIn K mainGlobals "BASES" = some (some (.ref b_BASES)))
    (l_BASES : K.lookup b_BASES = some ⟨.type "tuple", od_BASES, .seq #[.int 2 t0_BASES, .int 3 t1_BASES] nB_BASES, sl_BASES⟩)
    (g_LETTERS : PySem.W.nsIn K mainGlobals "LETTERS" = some (some (.str "abcdefghijklmnopqrstuvwxyz" t_LETTERS))) :
    ∃ T : Txt K mg, T.a_law = fa ∧ ∀ (s : Shared) (v : Value), BindsTo s T.u_law ⟨[v], []⟩ [("script", v)] := by
  have e := hfa.symm.trans (PySem.W.mg_of X G g_law)
  cases e
  exact ⟨{ a_Book := f_Book, c_Book := ⟨pg_Book, hd_Book, po_Book, sa_Book⟩, m_Book := PySem.W.mg_of X G aC_Book, m__law_pool := PySem.W.mg_of X G g__law_pool, a__law_pool := f__law_pool, u__law_pool := PySem.W.fnOf "_law_pool" "_law_pool" (defArgs s__law_pool) (defBody s__law_pool) (defScope s__law_pool) .none kV__law_pool dc__law_pool pm__law_pool an__law_pool cd__law_pool ct__law_pool, f__law_pool := fun_mk (st := s__law_pool) l__law_pool c__law_pool k__law_pool, m__law_draw := PySem.W.mg_of X G g__law_draw, a__law_draw := f__law_draw, u__law_draw := PySem.W.fnOf "_law_draw" "_law_draw" (defArgs s__law_draw) (defBody s__law_draw) (defScope s__law_draw) .none kV__law_draw dc__law_draw pm__law_draw an__law_draw cd__law_draw ct__law_draw, f__law_draw := fun_mk (st := s__law_draw) l__law_draw c__law_draw k__law_draw, m__law_factor := PySem.W.mg_of X G g__law_factor, a__law_factor := f__law_factor, u__law_factor := PySem.W.fnOf "_law_factor" "_law_factor" (defArgs s__law_factor) (defBody s__law_factor) (defScope s__law_factor) .none kV__law_factor dc__law_factor pm__law_factor an__law_factor cd__law_factor ct__law_factor, f__law_factor := fun_mk (st := s__law_factor) l__law_factor c__law_factor k__law_factor, m__law_pane := PySem.W.mg_of X G g__law_pane, a__law_pane := f__law_pane, u__law_pane := PySem.W.fnOf "_law_pane" "_law_pane" (defArgs s__law_pane) (defBody s__law_pane) (defScope s__law_pane) .none kV__law_pane dc__law_pane pm__law_pane an__law_pane cd__law_pane ct__law_pane, f__law_pane := fun_mk (st := s__law_pane) l__law_pane c__law_pane k__law_pane, m__law_kind := PySem.W.mg_of X G g__law_kind, a__law_kind := f__law_kind, u__law_kind := PySem.W.fnOf "_law_kind" "_law_kind" (defArgs s__law_kind) (defBody s__law_kind) (defScope s__law_kind) .none kV__law_kind dc__law_kind pm__law_kind an__law_kind cd__law_kind ct__law_kind, f__law_kind := fun_mk (st := s__law_kind) l__law_kind c__law_kind k__law_kind, m__law_bent := PySem.W.mg_of X G g__law_bent, a__law_bent := f__law_bent, u__law_bent := PySem.W.fnOf "_law_bent" "_law_bent" (defArgs s__law_bent) (defBody s__law_bent) (defScope s__law_bent) .none kV__law_bent dc__law_bent pm__law_bent an__law_bent cd__law_bent ct__law_bent, f__law_bent := fun_mk (st := s__law_bent) l__law_bent c__law_bent k__law_bent, m__law_due := PySem.W.mg_of X G g__law_due, a__law_due := f__law_due, u__law_due := PySem.W.fnOf "_law_due" "_law_due" (defArgs s__law_due) (defBody s__law_due) (defScope s__law_due) .none kV__law_due dc__law_due pm__law_due an__law_due cd__law_due ct__law_due, f__law_due := fun_mk (st := s__law_due) l__law_due c__law_due k__law_due, m_is_name := PySem.W.mg_of X G g_is_name, a_is_name := f_is_name, u_is_name := PySem.W.fnOf "is_name" "is_name" (defArgs s_is_name) (defBody s_is_name) (defScope s_is_name) .none kV_is_name dc_is_name pm_is_name an_is_name cd_is_name ct_is_name, f_is_name := fun_mk (st := s_is_name) l_is_name c_is_name k_is_name, m_check_names := PySem.W.mg_of X G g_check_names, a_check_names := f_check_names, u_check_names := PySem.W.fnOf "check_names" "check_names" (defArgs s_check_names) (defBody s_check_names) (defScope s_check_names) .none kV_check_names dc_check_names pm_check_names an_check_names cd_check_names ct_check_names, f_check_names := fun_mk (st := s_check_names) l_check_names c_check_names k_check_names, m_is_square := PySem.W.mg_of X G g_is_square, a_is_square := f_is_square, u_is_square := PySem.W.fnOf "is_square" "is_square" (defArgs s_is_square) (defBody s_is_square) (defScope s_is_square) .none kV_is_square dc_is_square pm_is_square an_is_square cd_is_square ct_is_square, f_is_square := fun_mk (st := s_is_square) l_is_square c_is_square k_is_square, m_check_blocks := PySem.W.mg_of X G g_check_blocks, a_check_blocks := f_check_blocks, u_check_blocks := PySem.W.fnOf "check_blocks" "check_blocks" (defArgs s_check_blocks) (defBody s_check_blocks) (defScope s_check_blocks) .none kV_check_blocks dc_check_blocks pm_check_blocks an_check_blocks cd_check_blocks ct_check_blocks, f_check_blocks := fun_mk (st := s_check_blocks) l_check_blocks c_check_blocks k_check_blocks, m_kept_blocks := PySem.W.mg_of X G g_kept_blocks, a_kept_blocks := f_kept_blocks, u_kept_blocks := PySem.W.fnOf "kept_blocks" "kept_blocks" (defArgs s_kept_blocks) (defBody s_kept_blocks) (defScope s_kept_blocks) .none kV_kept_blocks dc_kept_blocks pm_kept_blocks an_kept_blocks cd_kept_blocks ct_kept_blocks, f_kept_blocks := fun_mk (st := s_kept_blocks) l_kept_blocks c_kept_blocks k_kept_blocks, k_Book := ⟨mk_Book, g_Book_init, i_Book_init, kc_Book⟩, a_Book_init := f_Book_init, u_Book_init := PySem.W.fnOf "__init__" "Book.__init__" (defArgs s_Book_init) (defBody s_Book_init) (defScope s_Book_init) .none kV_Book_init dc_Book_init pm_Book_init an_Book_init cd_Book_init ct_Book_init, f_Book_init := fun_mk (st := s_Book_init) l_Book_init c_Book_init k_Book_init, m__law_caught := PySem.W.mg_of X G g__law_caught, a__law_caught := f__law_caught, u__law_caught := PySem.W.fnOf "_law_caught" "_law_caught" (defArgs s__law_caught) (defBody s__law_caught) (defScope s__law_caught) .none kV__law_caught dc__law_caught pm__law_caught an__law_caught cd__law_caught ct__law_caught, f__law_caught := fun_mk (st := s__law_caught) l__law_caught c__law_caught k__law_caught, m__law_right := PySem.W.mg_of X G g__law_right, a__law_right := f__law_right, u__law_right := PySem.W.fnOf "_law_right" "_law_right" (defArgs s__law_right) (defBody s__law_right) (defScope s__law_right) .none kV__law_right dc__law_right pm__law_right an__law_right cd__law_right ct__law_right, f__law_right := fun_mk (st := s__law_right) l__law_right c__law_right k__law_right, m_law := PySem.W.mg_of X G g_law, a_law := fa, u_law := PySem.W.fnOf "law" "law" (defArgs s_law) (defBody s_law) (defScope s_law) .none kV_law dc_law pm_law an_law cd_law ct_law, f_law := fun_mk (st := s_law) l_law c_law k_law, a_BlockError := f_BlockError, m_BlockError := PySem.W.mg_of X G gx_BlockError, a_InvalidBase := f_InvalidBase, m_InvalidBase := PySem.W.mg_of X G gx_InvalidBase, a_InvalidBlocks := f_InvalidBlocks, m_InvalidBlocks := PySem.W.mg_of X G gx_InvalidBlocks, a_InvalidName := f_InvalidName, m_InvalidName := PySem.W.mg_of X G gx_InvalidName, a_InvalidArea := f_InvalidArea, m_InvalidArea := PySem.W.mg_of X G gx_InvalidArea, a_InvalidLevel := f_InvalidLevel, m_InvalidLevel := PySem.W.mg_of X G gx_InvalidLevel, a_InvalidNumber := f_InvalidNumber, m_InvalidNumber := PySem.W.mg_of X G gx_InvalidNumber, a_InvalidPlace := f_InvalidPlace, m_InvalidPlace := PySem.W.mg_of X G gx_InvalidPlace, a_InvalidRest := f_InvalidRest, m_InvalidRest := PySem.W.mg_of X G gx_InvalidRest, a_NothingToUndo := f_NothingToUndo, m_NothingToUndo := PySem.W.mg_of X G gx_NothingToUndo, a_TooWide := f_TooWide, m_TooWide := PySem.W.mg_of X G gx_TooWide, a_UnlikeBases := f_UnlikeBases, m_UnlikeBases := PySem.W.mg_of X G gx_UnlikeBases, a_Unreadable := f_Unreadable, m_Unreadable := PySem.W.mg_of X G gx_Unreadable, a_xi := f_xi, u_xi := PySem.W.ksFn "__init__" qx_x par_x (BX.xBody p0_x p1_x p2_x p3_x p4_x p5_x p6_x p7_x p8_x p9_x) sco_x dV_x kV_x doc_x pm_x an_x (.ref cda_x) ct_x cc_x, xi := fun w base => BX.xinit_ok lxi cxi lcda vs2 (BX.okp_file fil) lcc clD sta (PySem.W.mg_none_of X G sup) (BX.OkP.top P0) hp har hks hkc hka hkv hk hco hgen hce hev, xb := BX.xb_mk hxb.2, ti_x := tix, xc_InvalidBase := BX.xcls_mk lk_InvalidBase bm_InvalidBase xsa_InvalidBase xex_InvalidBase xty_InvalidBase xkp_InvalidBase xva_InvalidBase xmr_InvalidBase xsu_InvalidBase xve_InvalidBase, ii_InvalidBase := xii_InvalidBase, xs_InvalidBase := BX.xis_mk lk_InvalidBase xga_InvalidBase xgg_InvalidBase xex_InvalidBase xca_InvalidBase spx tkx xob_InvalidBase xhd_InvalidBase xva_InvalidBase, ex_InvalidBase := PySem.W.exm_ref exD hdD tyD xem_InvalidBase, ko_InvalidBase_InvalidArea := xko_InvalidBase_InvalidArea, ko_InvalidBase_InvalidLevel := xko_InvalidBase_InvalidLevel, ko_InvalidBase_InvalidNumber := xko_InvalidBase_InvalidNumber, ko_InvalidBase_InvalidPlace := xko_InvalidBase_InvalidPlace, ko_InvalidBase_InvalidRest := xko_InvalidBase_InvalidRest, ko_InvalidBase_NothingToUndo := xko_InvalidBase_NothingToUndo, ko_InvalidBase_TooWide := xko_InvalidBase_TooWide, ko_InvalidBase_UnlikeBases := xko_InvalidBase_UnlikeBases, ko_InvalidBase_Unreadable := xko_InvalidBase_Unreadable, ko_InvalidBase_InvalidBase := xko_InvalidBase_InvalidBase, ko_InvalidBase_InvalidName := xko_InvalidBase_InvalidName, ko_InvalidBase_InvalidBlocks := xko_InvalidBase_InvalidBlocks, kv_InvalidBase := xkv_InvalidBase, xc_InvalidBlocks := BX.xcls_mk lk_InvalidBlocks bm_InvalidBlocks xsa_InvalidBlocks xex_InvalidBlocks xty_InvalidBlocks xkp_InvalidBlocks xva_InvalidBlocks xmr_InvalidBlocks xsu_InvalidBlocks xve_InvalidBlocks, ii_InvalidBlocks := xii_InvalidBlocks, xs_InvalidBlocks := BX.xis_mk lk_InvalidBlocks xga_InvalidBlocks xgg_InvalidBlocks xex_InvalidBlocks xca_InvalidBlocks spx tkx xob_InvalidBlocks xhd_InvalidBlocks xva_InvalidBlocks, ex_InvalidBlocks := PySem.W.exm_ref exD hdD tyD xem_InvalidBlocks, ko_InvalidBlocks_InvalidArea := xko_InvalidBlocks_InvalidArea, ko_InvalidBlocks_InvalidLevel := xko_InvalidBlocks_InvalidLevel, ko_InvalidBlocks_InvalidNumber := xko_InvalidBlocks_InvalidNumber, ko_InvalidBlocks_InvalidPlace := xko_InvalidBlocks_InvalidPlace, ko_InvalidBlocks_InvalidRest := xko_InvalidBlocks_InvalidRest, ko_InvalidBlocks_NothingToUndo := xko_InvalidBlocks_NothingToUndo, ko_InvalidBlocks_TooWide := xko_InvalidBlocks_TooWide, ko_InvalidBlocks_UnlikeBases := xko_InvalidBlocks_UnlikeBases, ko_InvalidBlocks_Unreadable := xko_InvalidBlocks_Unreadable, ko_InvalidBlocks_InvalidBase := xko_InvalidBlocks_InvalidBase, ko_InvalidBlocks_InvalidName := xko_InvalidBlocks_InvalidName, ko_InvalidBlocks_InvalidBlocks := xko_InvalidBlocks_InvalidBlocks, kv_InvalidBlocks := xkv_InvalidBlocks, xc_InvalidName := BX.xcls_mk lk_InvalidName bm_InvalidName xsa_InvalidName xex_InvalidName xty_InvalidName xkp_InvalidName xva_InvalidName xmr_InvalidName xsu_InvalidName xve_InvalidName, ii_InvalidName := xii_InvalidName, xs_InvalidName := BX.xis_mk lk_InvalidName xga_InvalidName xgg_InvalidName xex_InvalidName xca_InvalidName spx tkx xob_InvalidName xhd_InvalidName xva_InvalidName, ex_InvalidName := PySem.W.exm_ref exD hdD tyD xem_InvalidName, ko_InvalidName_InvalidArea := xko_InvalidName_InvalidArea, ko_InvalidName_InvalidLevel := xko_InvalidName_InvalidLevel, ko_InvalidName_InvalidNumber := xko_InvalidName_InvalidNumber, ko_InvalidName_InvalidPlace := xko_InvalidName_InvalidPlace, ko_InvalidName_InvalidRest := xko_InvalidName_InvalidRest, ko_InvalidName_NothingToUndo := xko_InvalidName_NothingToUndo, ko_InvalidName_TooWide := xko_InvalidName_TooWide, ko_InvalidName_UnlikeBases := xko_InvalidName_UnlikeBases, ko_InvalidName_Unreadable := xko_InvalidName_Unreadable, ko_InvalidName_InvalidBase := xko_InvalidName_InvalidBase, ko_InvalidName_InvalidName := xko_InvalidName_InvalidName, ko_InvalidName_InvalidBlocks := xko_InvalidName_InvalidBlocks, kv_InvalidName := xkv_InvalidName, n_Book_kept := n_Book_kept, n_Book_radix := n_Book_radix, z_ValueError := PySem.W.mg_none_of X G z_ValueError, z_abs := PySem.W.mg_none_of X G z_abs, z_all := PySem.W.mg_none_of X G z_all, z_enumerate := PySem.W.mg_none_of X G z_enumerate, z_int := PySem.W.mg_none_of X G z_int, z_isinstance := PySem.W.mg_none_of X G z_isinstance, z_len := PySem.W.mg_none_of X G z_len, z_list := PySem.W.mg_none_of X G z_list, z_max := PySem.W.mg_none_of X G z_max, z_min := PySem.W.mg_none_of X G z_min, z_range := PySem.W.mg_none_of X G z_range, z_repr := PySem.W.mg_none_of X G z_repr, z_tuple := PySem.W.mg_none_of X G z_tuple, v_BASES := .ref b_BASES, g_BASES := ⟨_, PySem.W.mg_of X G g_BASES, rfl⟩, d_BASES := fun F => .tup (vs := [V.int 2, V.int 3]) (.inr ⟨_, _, _, l_BASES, rfl, rfl, (show 2 ≤ PySem.sizeLine by decide), (.cons ⟨_, rfl⟩ (.cons ⟨_, rfl⟩ .nil))⟩) (.cons (.int 2) (.cons (.int 3) DatL.nil)), v_LETTERS := .str "abcdefghijklmnopqrstuvwxyz", g_LETTERS := ⟨_, PySem.W.mg_of X G g_LETTERS, ⟨_, rfl⟩⟩, d_LETTERS := fun _ => .str _ }, rfl, fun s v => .of_eq rfl⟩
theorem law_sp {K : PySem.W.Frag} (H : Hp) (a : Addr) (ns : List Int) (hl : ns.length ≤ 63) (hS : SqL K H a (ns.map V.int)) : spF K 1 fs_law [.ref a] H (fun v _ => v = .bl true) fun _ _ _ => False :=
  sp_top ns hS ⟨ns, rfl, hl, rfl⟩
theorem law_walk {l : PySem.W.OpenLaw} {q : Program} (hq : BX.OkP P0 l.prog) {loose : List Str} {XP : (Str → Option Value) → Heap → Prop} {YP : World → Heap → Prop} {d : DefRec} {K : Params → PySem.W.Frag} (hn : l.most = some 63) (hdf : d.params.defaults = [])
    (hY : ∀ (w : World) (h : Heap), YP w h → (K w.params).In h)
    (F : ∀ (w : World) (mg : Str → Option Value) (fa : Addr) (h : Heap), (K w.params).In h → h.Ns mainGlobals mg → mg d.name = some (.ref fa) →
      ∃ T : Txt (K w.params) mg, T.a_law = fa ∧ ∀ (s : Shared) (v : Value), BindsTo s T.u_law ⟨[v], []⟩ [("script", v)]) :
    PySem.W.WalkO q loose XP YP l.row.toRowW d [] (fun f vs => PySem.call f vs) := by
  haveI := hq
  exact walk_ofG (n := 63) (k := 8) (fs := fun w => fs_law) hn (by decide) hdf ⟨rfl, by decide, by decide⟩ hY
    (fun w mg fa h KX G e => let ⟨T, h1, h2⟩ := F w mg fa h KX G e
      ⟨T.u_law, h2, fun base _ _ => h1 ▸ ok_law (P := l.prog) T⟩)
    (fun _ H a ns hl hS => law_sp H a ns hl hS)
end K03
open PySem PySem.W PyProof.Rows in
set_option maxRecDepth 100000 in
set_option maxHeartbeats 0 in
theorem PySem.Challenge.cw_blockbooks_k03_books_refused_holds : PySem.Challenge.rw_blockbooks_k03_books_refused.Holds := by
  w_on; o_law; k_head; (case hw => w_witness2)
  k_fill
  refine K03.law_walk (l := PySem.Challenge.rw_blockbooks_k03_books_refused) (by exact ⟨rfl, rfl⟩) rfl rfl (fun w h Y => PySem.W.kIn_of Y) ?F
  case F =>
    intro w mg fa h KX G hmg
    refine' K03.all_mk KX G hmg ?aC_Book ?pg_Book ?hd_Book ?po_Book ?sa_Book ?mk_Book ?kc_Book ?g__law_pool ?l__law_pool ?c__law_pool ?k__law_pool ?g__law_draw ?l__law_draw ?c__law_draw ?k__law_draw ?g__law_factor ?l__law_factor ?c__law_factor ?k__law_factor ?g__law_pane ?l__law_pane ?c__law_pane ?k__law_pane ?g__law_kind ?l__law_kind ?c__law_kind ?k__law_kind ?g__law_bent ?l__law_bent ?c__law_bent ?k__law_bent ?g__law_due ?l__law_due ?c__law_due ?k__law_due ?g_is_name ?l_is_name ?c_is_name ?k_is_name ?g_check_names ?l_check_names ?c_check_names ?k_check_names ?g_is_square ?l_is_square ?c_is_square ?k_is_square ?g_check_blocks ?l_check_blocks ?c_check_blocks ?k_check_blocks ?g_kept_blocks ?l_kept_blocks ?c_kept_blocks ?k_kept_blocks ?g_Book_init ?i_Book_init ?l_Book_init ?c_Book_init ?k_Book_init ?g__law_caught ?l__law_caught ?c__law_caught ?k__law_caught ?g__law_right ?l__law_right ?c__law_right ?k__law_right ?g_law ?l_law ?c_law ?k_law ?gx_BlockError ?gx_InvalidBase ?gx_InvalidBlocks ?gx_InvalidName ?gx_InvalidArea ?gx_InvalidLevel ?gx_InvalidNumber ?gx_InvalidPlace ?gx_InvalidRest ?gx_NothingToUndo ?gx_TooWide ?gx_UnlikeBases ?gx_Unreadable ?gxi ?lxi ?cxi ?lcda ?vs2 ?fil ?lcc ?clD ?sta ?sup ?hp ?har ?hks ?hkc ?hka ?hkv ?hk ?hco ?hgen ?hce ?hev ?hxb ?tix ?exD ?hdD ?tyD ?spx ?tkx ?lk_InvalidBase ?bm_InvalidBase ?xsa_InvalidBase ?xex_InvalidBase ?xty_InvalidBase ?xkp_InvalidBase ?xva_InvalidBase ?xmr_InvalidBase ?xsu_InvalidBase ?xve_InvalidBase ?xga_InvalidBase ?xgg_InvalidBase ?xca_InvalidBase ?xob_InvalidBase ?xhd_InvalidBase ?xii_InvalidBase ?xem_InvalidBase ?xko_InvalidBase_InvalidArea ?xko_InvalidBase_InvalidLevel ?xko_InvalidBase_InvalidNumber ?xko_InvalidBase_InvalidPlace ?xko_InvalidBase_InvalidRest ?xko_InvalidBase_NothingToUndo ?xko_InvalidBase_TooWide ?xko_InvalidBase_UnlikeBases ?xko_InvalidBase_Unreadable ?xko_InvalidBase_InvalidBase ?xko_InvalidBase_InvalidName ?xko_InvalidBase_InvalidBlocks ?xkv_InvalidBase ?lk_InvalidBlocks ?bm_InvalidBlocks ?xsa_InvalidBlocks ?xex_InvalidBlocks ?xty_InvalidBlocks ?xkp_InvalidBlocks ?xva_InvalidBlocks ?xmr_InvalidBlocks ?xsu_InvalidBlocks ?xve_InvalidBlocks ?xga_InvalidBlocks ?xgg_InvalidBlocks ?xca_InvalidBlocks ?xob_InvalidBlocks ?xhd_InvalidBlocks ?xii_InvalidBlocks ?xem_InvalidBlocks ?xko_InvalidBlocks_InvalidArea ?xko_InvalidBlocks_InvalidLevel ?xko_InvalidBlocks_InvalidNumber ?xko_InvalidBlocks_InvalidPlace ?xko_InvalidBlocks_InvalidRest ?xko_InvalidBlocks_NothingToUndo ?xko_InvalidBlocks_TooWide ?xko_InvalidBlocks_UnlikeBases ?xko_InvalidBlocks_Unreadable ?xko_InvalidBlocks_InvalidBase ?xko_InvalidBlocks_InvalidName ?xko_InvalidBlocks_InvalidBlocks ?xkv_InvalidBlocks ?lk_InvalidName ?bm_InvalidName ?xsa_InvalidName ?xex_InvalidName ?xty_InvalidName ?xkp_InvalidName ?xva_InvalidName ?xmr_InvalidName ?xsu_InvalidName ?xve_InvalidName ?xga_InvalidName ?xgg_InvalidName ?xca_InvalidName ?xob_InvalidName ?xhd_InvalidName ?xii_InvalidName ?xem_InvalidName ?xko_InvalidName_InvalidArea ?xko_InvalidName_InvalidLevel ?xko_InvalidName_InvalidNumber ?xko_InvalidName_InvalidPlace ?xko_InvalidName_InvalidRest ?xko_InvalidName_NothingToUndo ?xko_InvalidName_TooWide ?xko_InvalidName_UnlikeBases ?xko_InvalidName_Unreadable ?xko_InvalidName_InvalidBase ?xko_InvalidName_InvalidName ?xko_InvalidName_InvalidBlocks ?xkv_InvalidName ?n_Book_kept ?n_Book_radix ?z_ValueError ?z_abs ?z_all ?z_enumerate ?z_int ?z_isinstance ?z_len ?z_list ?z_max ?z_min ?z_range ?z_repr ?z_tuple ?g_BASES ?l_BASES ?g_LETTERS
    (case aC_Book => k_is)
    (case pg_Book => k_is)
    (case hd_Book => k_is)
    (case po_Book => k_is)
    (case sa_Book => k_is)
    (case mk_Book => k_is)
    (case kc_Book => k_is)
    (case g__law_pool => k_is)
    (case l__law_pool => k_is)
    (case c__law_pool => k_is)
    (case k__law_pool => k_is)
    (case g__law_draw => k_is)
    (case l__law_draw => k_is)
    (case c__law_draw => k_is)
    (case k__law_draw => k_is)
    (case g__law_factor => k_is)
    (case l__law_factor => k_is)
    (case c__law_factor => k_is)
    (case k__law_factor => k_is)
    (case g__law_pane => k_is)
    (case l__law_pane => k_is)
    (case c__law_pane => k_is)
    (case k__law_pane => k_is)
    (case g__law_kind => k_is)
    (case l__law_kind => k_is)
    (case c__law_kind => k_is)
    (case k__law_kind => k_is)
    (case g__law_bent => k_is)
    (case l__law_bent => k_is)
    (case c__law_bent => k_is)
    (case k__law_bent => k_is)
    (case g__law_due => k_is)
    (case l__law_due => k_is)
    (case c__law_due => k_is)
    (case k__law_due => k_is)
    (case g_is_name => k_is)
    (case l_is_name => k_is)
    (case c_is_name => k_is)
    (case k_is_name => k_is)
    (case g_check_names => k_is)
    (case l_check_names => k_is)
    (case c_check_names => k_is)
    (case k_check_names => k_is)
    (case g_is_square => k_is)
    (case l_is_square => k_is)
    (case c_is_square => k_is)
    (case k_is_square => k_is)
    (case g_check_blocks => k_is)
    (case l_check_blocks => k_is)
    (case c_check_blocks => k_is)
    (case k_check_blocks => k_is)
    (case g_kept_blocks => k_is)
    (case l_kept_blocks => k_is)
    (case c_kept_blocks => k_is)
    (case k_kept_blocks => k_is)
    (case g_Book_init => k_is)
    (case i_Book_init => k_is)
    (case l_Book_init => k_is)
    (case c_Book_init => k_is)
    (case k_Book_init => k_is)
    (case g__law_caught => k_is)
    (case l__law_caught => k_is)
    (case c__law_caught => k_is)
    (case k__law_caught => k_is)
    (case g__law_right => k_is)
    (case l__law_right => k_is)
    (case c__law_right => k_is)
    (case k__law_right => k_is)
    (case g_law => k_is)
    (case l_law => k_is)
    (case c_law => k_is)
    (case k_law => k_is)
    (case gx_BlockError => k_is)
    (case gx_InvalidBase => k_is)
    (case gx_InvalidBlocks => k_is)
    (case gx_InvalidName => k_is)
    (case gx_InvalidArea => k_is)
    (case gx_InvalidLevel => k_is)
    (case gx_InvalidNumber => k_is)
    (case gx_InvalidPlace => k_is)
    (case gx_InvalidRest => k_is)
    (case gx_NothingToUndo => k_is)
    (case gx_TooWide => k_is)
    (case gx_UnlikeBases => k_is)
    (case gx_Unreadable => k_is)
    (case gxi => k_is)
    (case lxi => k_is)
    (case cxi => k_is)
    (case lcda => k_is)
    (case vs2 => exact rfl)
    (case fil => first | exact rfl | decide +kernel)
    (case lcc => k_is)
    (case clD => k_is)
    (case sta => k_is)
    (case sup => k_is)
    (case hp => exact rfl)
    (case har => exact rfl)
    (case hks => first | exact rfl | decide +kernel)
    (case hkc => first | exact rfl | decide +kernel)
    (case hka => first | exact rfl | decide +kernel)
    (case hkv => first | exact rfl | decide +kernel)
    (case hk => exact rfl)
    (case hco => exact rfl)
    (case hgen => exact rfl)
    (case hce => decide)
    (case hev => exact fun _ => rfl)
    (case hxb => exact ⟨rfl, fun _ _ => rfl⟩)
    (case tix => k_is)
    (case exD => k_is)
    (case hdD => k_is)
    (case tyD => k_is)
    (case spx => k_is)
    (case tkx => k_is)
    (case lk_InvalidBase => k_is)
    (case bm_InvalidBase => first | exact rfl | decide +kernel)
    (case xsa_InvalidBase => k_is)
    (case xex_InvalidBase => k_is)
    (case xty_InvalidBase => k_is)
    (case xkp_InvalidBase => k_is)
    (case xva_InvalidBase => k_is)
    (case xmr_InvalidBase => k_is)
    (case xsu_InvalidBase => ks_is)
    (case xve_InvalidBase => k_is)
    (case xga_InvalidBase => k_is)
    (case xgg_InvalidBase => k_is)
    (case xca_InvalidBase => k_is)
    (case xob_InvalidBase => k_is)
    (case xhd_InvalidBase => k_is)
    (case xii_InvalidBase => k_is)
    (case xem_InvalidBase => k_is)
    (case xko_InvalidBase_InvalidArea => kit_is)
    (case xko_InvalidBase_InvalidLevel => kit_is)
    (case xko_InvalidBase_InvalidNumber => kit_is)
    (case xko_InvalidBase_InvalidPlace => kit_is)
    (case xko_InvalidBase_InvalidRest => kit_is)
    (case xko_InvalidBase_NothingToUndo => kit_is)
    (case xko_InvalidBase_TooWide => kit_is)
    (case xko_InvalidBase_UnlikeBases => kit_is)
    (case xko_InvalidBase_Unreadable => kit_is)
    (case xko_InvalidBase_InvalidBase => kit_is)
    (case xko_InvalidBase_InvalidName => kit_is)
    (case xko_InvalidBase_InvalidBlocks => kit_is)
    (case xkv_InvalidBase => kit_is)
    (case lk_InvalidBlocks => k_is)
    (case bm_InvalidBlocks => first | exact rfl | decide +kernel)
    (case xsa_InvalidBlocks => k_is)
    (case xex_InvalidBlocks => k_is)
    (case xty_InvalidBlocks => k_is)
    (case xkp_InvalidBlocks => k_is)
    (case xva_InvalidBlocks => k_is)
    (case xmr_InvalidBlocks => k_is)
    (case xsu_InvalidBlocks => ks_is)
    (case xve_InvalidBlocks => k_is)
    (case xga_InvalidBlocks => k_is)
    (case xgg_InvalidBlocks => k_is)
    (case xca_InvalidBlocks => k_is)
    (case xob_InvalidBlocks => k_is)
    (case xhd_InvalidBlocks => k_is)
    (case xii_InvalidBlocks => k_is)
    (case xem_InvalidBlocks => k_is)
    (case xko_InvalidBlocks_InvalidArea => kit_is)
    (case xko_InvalidBlocks_InvalidLevel => kit_is)
    (case xko_InvalidBlocks_InvalidNumber => kit_is)
    (case xko_InvalidBlocks_InvalidPlace => kit_is)
    (case xko_InvalidBlocks_InvalidRest => kit_is)
    (case xko_InvalidBlocks_NothingToUndo => kit_is)
    (case xko_InvalidBlocks_TooWide => kit_is)
    (case xko_InvalidBlocks_UnlikeBases => kit_is)
    (case xko_InvalidBlocks_Unreadable => kit_is)
    (case xko_InvalidBlocks_InvalidBase => kit_is)
    (case xko_InvalidBlocks_InvalidName => kit_is)
    (case xko_InvalidBlocks_InvalidBlocks => kit_is)
    (case xkv_InvalidBlocks => kit_is)
    (case lk_InvalidName => k_is)
    (case bm_InvalidName => first | exact rfl | decide +kernel)
    (case xsa_InvalidName => k_is)
    (case xex_InvalidName => k_is)
    (case xty_InvalidName => k_is)
    (case xkp_InvalidName => k_is)
    (case xva_InvalidName => k_is)
    (case xmr_InvalidName => k_is)
    (case xsu_InvalidName => ks_is)
    (case xve_InvalidName => k_is)
    (case xga_InvalidName => k_is)
    (case xgg_InvalidName => k_is)
    (case xca_InvalidName => k_is)
    (case xob_InvalidName => k_is)
    (case xhd_InvalidName => k_is)
    (case xii_InvalidName => k_is)
    (case xem_InvalidName => k_is)
    (case xko_InvalidName_InvalidArea => kit_is)
    (case xko_InvalidName_InvalidLevel => kit_is)
    (case xko_InvalidName_InvalidNumber => kit_is)
    (case xko_InvalidName_InvalidPlace => kit_is)
    (case xko_InvalidName_InvalidRest => kit_is)
    (case xko_InvalidName_NothingToUndo => kit_is)
    (case xko_InvalidName_TooWide => kit_is)
    (case xko_InvalidName_UnlikeBases => kit_is)
    (case xko_InvalidName_Unreadable => kit_is)
    (case xko_InvalidName_InvalidBase => kit_is)
    (case xko_InvalidName_InvalidName => kit_is)
    (case xko_InvalidName_InvalidBlocks => kit_is)
    (case xkv_InvalidName => kit_is)
    (case n_Book_kept => k_is)
    (case n_Book_radix => k_is)
    (case z_ValueError => k_is)
    (case z_abs => k_is)
    (case z_all => k_is)
    (case z_enumerate => k_is)
    (case z_int => k_is)
    (case z_isinstance => k_is)
    (case z_len => k_is)
    (case z_list => k_is)
    (case z_max => k_is)
    (case z_min => k_is)
    (case z_range => k_is)
    (case z_repr => k_is)
    (case z_tuple => k_is)
    (case g_BASES => k_is)
    (case l_BASES => k_is)
    (case g_LETTERS => k_is)
