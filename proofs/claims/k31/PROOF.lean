import PyProof.Rows.All
import Wide.All
import OpenK.AllK
import Wide.FinOn
import HandS.ForMost
import HandS.ForExc
import HandS.CallSlots
import HandS.IsInst
import HandS.TupAny
import HandS.TupMul
import HandS.Wide
import HandS.Deep
import HandS.ExcInit
import HandS.ExcIs
import HandS.TupLen
import HandS.SetFor
import HandS.SortInts
import HandS.Codes
import PyProof.Rows.RegReprOcc
import KE.KExcIs
import HandS.ExcField
import HandS.Defaults
import KE.GoesMore
import KE.GoesEnum
import HandS.Zip
import HandS.More
import KE.DatumOrd
import HandS.Style
import HandS.Conv
import HandS.Strs
import HandS.Star
import PyProof.ReprRoads
import HandS.RaiseMore
import PyProof.StrLawsRepr
import HandS.NoneIn
import HandS.TupSets
import HandS.ReplaceLit
import HandS.ReplaceList
import HandS.Text
import HandS.HeadHook3
import PySem.Challenge.RW_lightsapart_k31_texts_of_coasts
set_option Elab.async false
set_option linter.all false
set_option maxRecDepth 100000
set_option maxHeartbeats 4000001
namespace L3
open PySem PySem.Spec L2
open PyProof.Rows hiding St

/-! # L3A: tree data, how it lies in the abstract heap, ownership -/
inductive D where
  | non | bl (b : Bool) | int (i : Int) | str (s : List Nat)
  | tup (xs : List D) | lst (xs : List D)
  /-- a dict: its keys, its values, in their order -/
  | dic (ks : List D) (xs : List D)
  | ins (c : Str) (ns : List Str) (xs : List D)
  /-- the script: a list of ints that is read only -/
  | scr (ns : List Int)
  /-- a frozen thing in a slot of own things -/
  | fz (d : D)
  /-- a tuple whose object is known to have no dict -/
  | nd (xs : List D)
/-- the thing itself -/
def D.un : D → D
  | .fz d => d
  | d => d
abbrev S (l : List Nat) : Str := ⟨l.toArray⟩
def kD : Key → D
  | .inl i => .int i
  | .inr s => .str s.cps.toList
/-- the written part and the module's names -/
structure Kx where
  K : PySem.W.Frag
  mg : Str → Option Value

mutual
def Rep (W : Kx) (F : Hp) : D → V → Prop
  | .non, v => v = .non
  | .bl b, v => v = .bl b
  | .int i, v => v = .int i
  | .str s, v => v = .str (S s)
  | .tup xs, v => ∃ a vs, v = .ref a ∧ SqT W.K F a vs ∧ RepL W F xs vs
  | .lst xs, v => ∃ a vs, v = .ref a ∧ F a = some (.lst vs) ∧ RepL W F xs vs
  | .scr ns, v => ∃ a, v = .ref a ∧ SqL W.K F a (ns.map V.int)
  | .fz d, v => Rep W F d v
  | .nd xs, v => ∃ a o vs, v = .ref a ∧ F a = some (.frz o (.tup vs)) ∧ o.dict = none ∧ RepL W F xs vs
  | .dic ks xs, v => (∃ a o kvs, v = .ref a ∧ F a = some (.frz o (.dK kvs)) ∧ ks = kvs.map (fun p => kD p.1) ∧ RepL W F xs (kvs.map (·.2))) ∨
      (∃ a o kvs, v = .ref a ∧ F a = some (.frz o (.dT kvs)) ∧ kvs ≠ [] ∧ ks = kvs.map (fun p => D.tup (p.1.map kD)) ∧ RepL W F xs (kvs.map (·.2)))
  | .ins c ns xs, v => ∃ a C dx fs, v = .ref a ∧ F a = some (.ins C dx fs) ∧ W.mg c = some (.ref C) ∧ fs.map (·.1) = ns ∧ RepL W F xs (fs.map (·.2))
def RepL (W : Kx) (F : Hp) : List D → List V → Prop
  | [], vs => vs = []
  | d :: ds, vs => ∃ v r, vs = v :: r ∧ Rep W F d v ∧ RepL W F ds r
end

theorem rd_mono {F H : Hp} (h : Same F H) {a : Addr} {u : HO} (r : Rd F a u) : Rd H a u := by
  rcases r with r | ⟨o, r⟩
  · exact .inl (h _ _ r)
  · exact .inr ⟨o, h _ _ r⟩
theorem sqL_mono {K : PySem.W.Frag} {F H : Hp} (h : Same F H) {a : Addr} {xs : List V} (r : SqL K F a xs) : SqL K H a xs := h.seq r
theorem sqT_mono {K : PySem.W.Frag} {F H : Hp} (h : Same F H) {a : Addr} {xs : List V} (r : SqT K F a xs) : SqT K H a xs := by
  rcases r with r | r
  · exact .inl (rd_mono h r)
  · exact .inr r

mutual
theorem Rep.mono {W : Kx} {F H : Hp} (h : Same F H) : ∀ {d : D} {v : V}, Rep W F d v → Rep W H d v
  | .non, v, r => by simpa [Rep] using r
  | .bl b, v, r => by simpa [Rep] using r
  | .int i, v, r => by simpa [Rep] using r
  | .str s, v, r => by simpa [Rep] using r
  | .tup xs, v, r => by
    simp only [Rep] at r ⊢
    obtain ⟨a, vs, e, q, l⟩ := r
    exact ⟨a, vs, e, sqT_mono h q, RepL.mono h l⟩
  | .lst xs, v, r => by
    simp only [Rep] at r ⊢
    obtain ⟨a, vs, e, q, l⟩ := r
    exact ⟨a, vs, e, h _ _ q, RepL.mono h l⟩
  | .scr ns, v, r => by
    simp only [Rep] at r ⊢
    obtain ⟨a, e, q⟩ := r
    exact ⟨a, e, sqL_mono h q⟩
  | .fz d, v, r => by
    simp only [Rep] at r ⊢
    exact Rep.mono h r
  | .nd xs, v, r => by
    simp only [Rep] at r ⊢
    obtain ⟨a, o, u, e, q, n, l⟩ := r
    exact ⟨a, o, u, e, h _ _ q, n, RepL.mono h l⟩
  | .dic ks xs, v, r => by
    simp only [Rep] at r ⊢
    rcases r with ⟨a, o, kvs, e, q, k, l⟩ | ⟨a, o, kvs, e, q, ne, k, l⟩
    · exact .inl ⟨a, o, kvs, e, h _ _ q, k, RepL.mono h l⟩
    · exact .inr ⟨a, o, kvs, e, h _ _ q, ne, k, RepL.mono h l⟩
  | .ins c ns xs, v, r => by
    simp only [Rep] at r ⊢
    obtain ⟨a, C, dx, fs, e, q, m, n, l⟩ := r
    exact ⟨a, C, dx, fs, e, h _ _ q, m, n, RepL.mono h l⟩
theorem RepL.mono {W : Kx} {F H : Hp} (h : Same F H) : ∀ {ds : List D} {vs : List V}, RepL W F ds vs → RepL W H ds vs
  | [], vs, r => by simpa [RepL] using r
  | d :: ds, vs, r => by
    simp only [RepL] at r ⊢
    obtain ⟨v, t, e, a, b⟩ := r
    exact ⟨v, t, e, Rep.mono h a, RepL.mono h b⟩
end
section
variable {W : Kx} {F : Hp}
theorem repL_cons {d : D} {ds : List D} {v : V} {vs : List V} : RepL W F (d :: ds) (v :: vs) ↔ Rep W F d v ∧ RepL W F ds vs := by
  simp only [RepL]
  constructor
  · rintro ⟨_, _, e, a, b⟩; cases e; exact ⟨a, b⟩
  · rintro ⟨a, b⟩; exact ⟨_, _, rfl, a, b⟩
theorem repL_nil {vs : List V} : RepL W F [] vs ↔ vs = [] := by simp only [RepL]
theorem RepL.nil : RepL W F [] [] := repL_nil.mpr rfl
theorem RepL.cons {d : D} {ds : List D} {v : V} {vs : List V} (a : Rep W F d v) (b : RepL W F ds vs) : RepL W F (d :: ds) (v :: vs) := repL_cons.mpr ⟨a, b⟩
theorem RepL.length : ∀ {ds : List D} {vs : List V}, RepL W F ds vs → ds.length = vs.length
  | [], vs, r => by rw [repL_nil] at r; subst r; rfl
  | d :: ds, [], r => by simp only [RepL] at r; obtain ⟨_, _, e, _⟩ := r; cases e
  | d :: ds, v :: vs, r => by
    rw [repL_cons] at r
    simp [RepL.length r.2]
theorem RepL.get : ∀ {ds : List D} {vs : List V} {i : Nat} {d : D}, RepL W F ds vs → ds[i]? = some d → ∃ v, vs[i]? = some v ∧ Rep W F d v
  | [], vs, i, d, r, e => by simp at e
  | d :: ds, [], i, _, r, e => by simp only [RepL] at r; obtain ⟨_, _, e, _⟩ := r; cases e
  | d :: ds, v :: vs, 0, _, r, e => by rw [repL_cons] at r; simp at e; subst e; exact ⟨v, rfl, r.1⟩
  | d :: ds, v :: vs, i + 1, _, r, e => by rw [repL_cons] at r; simpa using RepL.get (i := i) r.2 (by simpa using e)
theorem RepL.getV : ∀ {ds : List D} {vs : List V} {i : Nat} {v : V}, RepL W F ds vs → vs[i]? = some v → ∃ d, ds[i]? = some d ∧ Rep W F d v
  | ds, [], i, _, r, e => by simp at e
  | [], v :: vs, i, d, r, e => by rw [repL_nil] at r; cases r
  | d :: ds, v :: vs, 0, _, r, e => by rw [repL_cons] at r; simp at e; subst e; exact ⟨d, rfl, r.1⟩
  | d :: ds, v :: vs, i + 1, _, r, e => by rw [repL_cons] at r; simpa using RepL.getV (i := i) r.2 (by simpa using e)
theorem RepL.append : ∀ {ds es : List D} {vs ws : List V}, RepL W F ds vs → RepL W F es ws → RepL W F (ds ++ es) (vs ++ ws)
  | [], es, vs, ws, r, q => by rw [repL_nil] at r; subst r; exact q
  | d :: ds, es, [], ws, r, q => by simp only [RepL] at r; obtain ⟨_, _, e, _⟩ := r; cases e
  | d :: ds, es, v :: vs, ws, r, q => by
    rw [repL_cons] at r
    exact .cons r.1 (RepL.append r.2 q)
theorem RepL.take : ∀ {ds : List D} {vs : List V} (n : Nat), RepL W F ds vs → RepL W F (ds.take n) (vs.take n)
  | _, _, 0, _ => by simp [RepL]
  | [], vs, n + 1, r => by rw [repL_nil] at r; subst r; simp [RepL]
  | d :: ds, [], n + 1, r => by simp only [RepL] at r; obtain ⟨_, _, e, _⟩ := r; cases e
  | d :: ds, v :: vs, n + 1, r => by rw [repL_cons] at r; exact .cons r.1 (RepL.take n r.2)
theorem RepL.drop : ∀ {ds : List D} {vs : List V} (n : Nat), RepL W F ds vs → RepL W F (ds.drop n) (vs.drop n)
  | _, _, 0, r => r
  | [], vs, n + 1, r => by rw [repL_nil] at r; subst r; simp [RepL]
  | d :: ds, [], n + 1, r => by simp only [RepL] at r; obtain ⟨_, _, e, _⟩ := r; cases e
  | d :: ds, v :: vs, n + 1, r => by rw [repL_cons] at r; exact RepL.drop n r.2
theorem RepL.set : ∀ {ds : List D} {vs : List V} (i : Nat) {d : D} {v : V}, RepL W F ds vs → Rep W F d v → RepL W F (ds.set i d) (vs.set i v)
  | [], vs, i, d, v, r, q => by rw [repL_nil] at r; subst r; simp [RepL]
  | d :: ds, [], i, _, _, r, q => by simp only [RepL] at r; obtain ⟨_, _, e, _⟩ := r; cases e
  | d :: ds, v :: vs, 0, _, _, r, q => by rw [repL_cons] at r; exact .cons q r.2
  | d :: ds, v :: vs, i + 1, _, _, r, q => by rw [repL_cons] at r; exact .cons r.1 (RepL.set i r.2 q)
theorem RepL.reverse {ds : List D} {vs : List V} (r : RepL W F ds vs) : RepL W F ds.reverse vs.reverse := by
  induction ds generalizing vs with
  | nil => rw [repL_nil] at r; subst r; simp [RepL]
  | cons d ds ih =>
    cases vs with
    | nil => simp only [RepL] at r; obtain ⟨_, _, e, _⟩ := r; cases e
    | cons v vs =>
      rw [repL_cons] at r
      rw [List.reverse_cons, List.reverse_cons]
      exact (ih r.2).append (.cons r.1 .nil)
end

/-- how a slot holds its datum -/
def isIns : D → Bool
  | .ins _ _ _ => true
  | _ => false
def isDic : D → Bool
  | .dic _ _ => true
  | _ => false
inductive Kd where
  | fr | own (k : Kd) | obj
  /-- an own dict; t: its keys are tuples -/
  | dct (t : Bool)
/-- what such a slot holds can be frozen without a step -/
def Kd.frz : Kd → Bool
  | .fr => true
  | .own k => k.frz
  | .obj => true
  | .dct _ => false
/-- an own dict at p -/
def DctAt (W : Kx) (F H : Hp) (t : Bool) (p : Addr) (ks xs : List D) : Prop := match t with
  | false => ∃ kvs, H p = some (.dK kvs) ∧ ks = kvs.map (fun z => kD z.1) ∧ RepL W F xs (kvs.map (·.2))
  | true => ∃ kvs, H p = some (.dT kvs) ∧ ks = kvs.map (fun z => D.tup (z.1.map kD)) ∧ RepL W F xs (kvs.map (·.2))

/-- a list of things, each at its places -/
def RepKs (R : D → V → List Addr → Prop) : List D → List V → List Addr → Prop
  | [], vs, ps => vs = [] ∧ ps = []
  | d :: ds, vs, ps => ∃ v r q qs, vs = v :: r ∧ ps = q ++ qs ∧ R d v q ∧ RepKs R ds r qs
/-- d lies at v; ps: the places that it alone owns -/
def RepK (W : Kx) (F H : Hp) : Kd → D → V → List Addr → Prop
  | .fr, d, v, ps => Rep W F d v ∧ ps = []
  | .own k, .lst ds, v, ps => ∃ p vs qs, v = .ref p ∧ H p = some (.lst vs) ∧ F p = none ∧ RepKs (RepK W F H k) ds vs qs ∧ ps = p :: qs
  | .own _, d, v, ps => Rep W F d v ∧ ps = []
  | .obj, d, v, ps => (∃ c ns xs a C dx fs, d = .ins c ns xs ∧ v = .ref a ∧ H a = some (.ins C dx fs) ∧ F a = none ∧ W.mg c = some (.ref C) ∧ fs.map (·.1) = ns ∧ RepL W F xs (fs.map (·.2)) ∧ ps = [a]) ∨ (isIns d = false ∧ Rep W F d v ∧ ps = [])
  | .dct t, d, v, ps => (∃ ks xs a, d = .dic ks xs ∧ v = .ref a ∧ F a = none ∧ DctAt W F H t a ks xs ∧ ps = [a]) ∨ (isDic d = false ∧ Rep W F d v ∧ ps = [])
theorem RepKs.mono {R R' : D → V → List Addr → Prop} : ∀ {ds : List D} {vs : List V} {ps : List Addr}, RepKs R ds vs ps → (∀ d v q, (∀ p ∈ q, p ∈ ps) → R d v q → R' d v q) → RepKs R' ds vs ps
  | [], vs, ps, r, h => r
  | d :: ds, vs, ps, r, h => by
    obtain ⟨v, t, q, qs, e1, e2, a, b⟩ := r
    subst e2
    exact ⟨v, t, q, qs, e1, rfl, h d v q (fun p hp => List.mem_append_left _ hp) a, b.mono fun d v q hq => h d v q fun p hp => List.mem_append_right _ (hq p hp)⟩
/-- frames: more is frozen, the owned places stand -/
theorem RepK.frame {W : Kx} {F F' H H' : Hp} (hF : Same F F') : ∀ {k : Kd} {d : D} {v : V} {ps : List Addr}, RepK W F H k d v ps → (∀ p ∈ ps, H' p = H p ∧ F' p = none) → RepK W F' H' k d v ps
  | .fr, d, v, ps, r, _ => ⟨r.1.mono hF, r.2⟩
  | .own k, .lst ds, v, ps, r, h => by
    simp only [RepK] at r ⊢
    obtain ⟨p, vs, qs, e1, e2, e3, rs, e4⟩ := r
    subst e4
    refine ⟨p, vs, qs, e1, by rw [(h p (.head _)).1]; exact e2, (h p (.head _)).2, rs.mono fun d v q hq a => a.frame hF fun x hx => h x (.tail _ (hq x hx)), rfl⟩
  | .obj, d, v, ps, r, h => by
    simp only [RepK] at r ⊢
    rcases r with ⟨c, ns, xs, a, C, dx, fs, e0, e1, e2, e3, e4, e5, rx, e6⟩ | ⟨z0, z1, z2⟩
    · subst e6
      exact .inl ⟨c, ns, xs, a, C, dx, fs, e0, e1, by rw [(h a (.head _)).1]; exact e2, (h a (.head _)).2, e4, e5, RepL.mono hF rx, rfl⟩
    · exact .inr ⟨z0, z1.mono hF, z2⟩
  | .dct t, d, v, ps, r, h => by
    simp only [RepK] at r ⊢
    rcases r with ⟨ks, xs, a, e0, e1, e2, e3, e4⟩ | ⟨z0, z1, z2⟩
    · subst e4
      refine .inl ⟨ks, xs, a, e0, e1, (h a (.head _)).2, ?_, rfl⟩
      cases t <;> obtain ⟨kvs, q1, q2, q3⟩ := e3
      · exact ⟨kvs, by rw [(h a (.head _)).1]; exact q1, q2, RepL.mono hF q3⟩
      · exact ⟨kvs, by rw [(h a (.head _)).1]; exact q1, q2, RepL.mono hF q3⟩
    · exact .inr ⟨z0, z1.mono hF, z2⟩
  | .own k, .non, v, ps, r, _ => ⟨r.1.mono hF, r.2⟩
  | .own k, .bl _, v, ps, r, _ => ⟨r.1.mono hF, r.2⟩
  | .own k, .int _, v, ps, r, _ => ⟨r.1.mono hF, r.2⟩
  | .own k, .str _, v, ps, r, _ => ⟨r.1.mono hF, r.2⟩
  | .own k, .tup _, v, ps, r, _ => ⟨r.1.mono hF, r.2⟩
  | .own k, .dic _ _, v, ps, r, _ => ⟨r.1.mono hF, r.2⟩
  | .own k, .ins _ _ _, v, ps, r, _ => ⟨r.1.mono hF, r.2⟩
  | .own k, .scr _, v, ps, r, _ => ⟨r.1.mono hF, r.2⟩
  | .own k, .fz _, v, ps, r, _ => ⟨r.1.mono hF, r.2⟩
  | .own k, .nd _, v, ps, r, _ => ⟨r.1.mono hF, r.2⟩
/-- items that own nothing -/
theorem repKs_fr {W : Kx} {F H : Hp} : ∀ {ds : List D} {vs : List V} {ps : List Addr}, RepKs (RepK W F H .fr) ds vs ps ↔ RepL W F ds vs ∧ ps = []
  | [], vs, ps => by simp [RepKs, RepL]
  | d :: ds, vs, ps => by
    simp only [RepKs, RepL]
    constructor
    · rintro ⟨v, r, q, qs, e1, e2, ⟨a, eq⟩, b⟩
      obtain ⟨b1, b2⟩ := repKs_fr.mp b
      subst eq b2 e2
      exact ⟨⟨v, r, e1, a, b1⟩, rfl⟩
    · rintro ⟨⟨v, r, e1, a, b⟩, e⟩
      exact ⟨v, r, [], [], e1, e, ⟨a, rfl⟩, repKs_fr.mpr ⟨b, rfl⟩⟩
/-- the frozen heap and the things at some places -/
def frz (F H : Hp) (ps : List Addr) : Hp := fun b => if b ∈ ps then H b else F b
theorem frz_sub {F H : Hp} {ps : List Addr} (h : Same F H) : Same (frz F H ps) H := fun b o e => by
  unfold frz at e; split at e
  · exact e
  · exact h _ _ e
theorem frz_of {F H : Hp} {ps : List Addr} (hn : ∀ p ∈ ps, F p = none) : Same F (frz F H ps) := fun b o e => by
  unfold frz; split
  · rename_i m; rw [hn b m] at e; cases e
  · exact e
theorem frz_in {F H : Hp} {ps : List Addr} {p : Addr} (h : p ∈ ps) : frz F H ps p = H p := by unfold frz; rw [if_pos h]
theorem frz_out {F H : Hp} {ps : List Addr} {p : Addr} (h : p ∉ ps) : frz F H ps p = F p := by unfold frz; rw [if_neg h]
theorem RepK.none {W : Kx} {F H : Hp} : ∀ {k : Kd} {d : D} {v : V} {ps : List Addr}, RepK W F H k d v ps → ∀ p ∈ ps, F p = none ∧ ∃ o, H p = some o
  | .fr, d, v, ps, r, p, hp => by rw [r.2] at hp; cases hp
  | .own k, .lst ds, v, ps, r, p, hp => by
    simp only [RepK] at r
    obtain ⟨a, vs, qs, e1, e2, e3, rs, e4⟩ := r
    subst e4
    rcases List.mem_cons.mp hp with e | hp
    · subst e; exact ⟨e3, _, e2⟩
    · have go : ∀ {ds : List D} {vs : List V} {qs : List Addr}, RepKs (RepK W F H k) ds vs qs → ∀ p ∈ qs, F p = Option.none ∧ ∃ o, H p = some o := by
        intro ds
        induction ds with
        | nil => intro vs qs r p hp; rw [r.2] at hp; cases hp
        | cons d ds ih =>
          intro vs qs r p hp
          obtain ⟨v, t, q, qs', e1, e2, a, b⟩ := r
          subst e2
          rcases List.mem_append.mp hp with hp | hp
          · exact a.none p hp
          · exact ih b p hp
      exact go rs p hp
  | .obj, d, v, ps, r, p, hp => by
    simp only [RepK] at r
    rcases r with ⟨c, ns, xs, a, C, dx, fs, e0, e1, e2, e3, e4, e5, rx, e6⟩ | ⟨z0, z1, z2⟩
    · subst e6
      cases List.mem_singleton.mp hp
      exact ⟨e3, _, e2⟩
    · rw [z2] at hp; cases hp
  | .dct t, d, v, ps, r, p, hp => by
    simp only [RepK] at r
    rcases r with ⟨ks, xs, a, e0, e1, e2, e3, e4⟩ | ⟨z0, z1, z2⟩
    · subst e4
      cases List.mem_singleton.mp hp
      cases t <;> obtain ⟨kvs, q1, q2, q3⟩ := e3 <;> exact ⟨e2, _, q1⟩
    · rw [z2] at hp; cases hp
  | .own k, .non, v, ps, r, p, hp => by rw [r.2] at hp; cases hp
  | .own k, .bl _, v, ps, r, p, hp => by rw [r.2] at hp; cases hp
  | .own k, .int _, v, ps, r, p, hp => by rw [r.2] at hp; cases hp
  | .own k, .str _, v, ps, r, p, hp => by rw [r.2] at hp; cases hp
  | .own k, .tup _, v, ps, r, p, hp => by rw [r.2] at hp; cases hp
  | .own k, .dic _ _, v, ps, r, p, hp => by rw [r.2] at hp; cases hp
  | .own k, .ins _ _ _, v, ps, r, p, hp => by rw [r.2] at hp; cases hp
  | .own k, .scr _, v, ps, r, p, hp => by rw [r.2] at hp; cases hp
  | .own k, .fz _, v, ps, r, p, hp => by rw [r.2] at hp; cases hp
  | .own k, .nd _, v, ps, r, p, hp => by rw [r.2] at hp; cases hp
/-- frozen at once: with the places that it owns it lies in a frozen heap -/
theorem RepK.toRep {W : Kx} {F H G : Hp} (hF : Same F G) : ∀ {k : Kd} {d : D} {v : V} {ps : List Addr}, k.frz = true → RepK W F H k d v ps → (∀ p ∈ ps, G p = H p) → Rep W G d v
  | .fr, d, v, ps, hk, r, _ => r.1.mono hF
  | .own k, .lst ds, v, ps, hk, r, h => by
    simp only [RepK] at r
    simp only [Rep]
    obtain ⟨p, vs, qs, e1, e2, e3, rs, e4⟩ := r
    subst e4
    have go : ∀ {ds : List D} {vs : List V} {qs : List Addr}, RepKs (RepK W F H k) ds vs qs → (∀ p ∈ qs, G p = H p) → RepL W G ds vs := by
      intro ds
      induction ds with
      | nil => intro vs qs r _; exact repL_nil.mpr r.1
      | cons d ds ih =>
        intro vs qs r hq
        obtain ⟨v, t, q, qs', e1, e2, a, b⟩ := r
        subst e1 e2
        exact .cons (RepK.toRep (k := k) hF hk a fun x hx => hq x (List.mem_append_left _ hx)) (ih b fun x hx => hq x (List.mem_append_right _ hx))
    exact ⟨p, vs, e1, by rw [h p (.head _)]; exact e2, go rs fun x hx => h x (.tail _ hx)⟩
  | .dct t, d, v, ps, hk, r, h => by cases hk
  | .obj, d, v, ps, hk, r, h => by
    simp only [RepK] at r
    rcases r with ⟨c, ns, xs, a, C, dx, fs, e0, e1, e2, e3, e4, e5, rx, e6⟩ | ⟨z0, z1, z2⟩
    · subst e6 e0
      simp only [Rep]
      exact ⟨a, C, dx, fs, e1, by rw [h a (.head _)]; exact e2, e4, e5, RepL.mono hF rx⟩
    · exact z1.mono hF
  | .own k, .non, v, ps, hk, r, _ => r.1.mono hF
  | .own k, .bl _, v, ps, hk, r, _ => r.1.mono hF
  | .own k, .int _, v, ps, hk, r, _ => r.1.mono hF
  | .own k, .str _, v, ps, hk, r, _ => r.1.mono hF
  | .own k, .tup _, v, ps, hk, r, _ => r.1.mono hF
  | .own k, .dic _ _, v, ps, hk, r, _ => r.1.mono hF
  | .own k, .ins _ _ _, v, ps, hk, r, _ => r.1.mono hF
  | .own k, .scr _, v, ps, hk, r, _ => r.1.mono hF
  | .own k, .fz _, v, ps, hk, r, _ => r.1.mono hF
  | .own k, .nd _, v, ps, hk, r, _ => r.1.mono hF
theorem rep_un {W : Kx} {F : Hp} {d : D} {v : V} : Rep W F d v ↔ Rep W F d.un v := by
  cases d <;> first | exact Iff.rfl | simp only [Rep, D.un]
end L3

namespace L3
open PySem PySem.Spec L2
open PyProof.Rows hiding St

/-! # L3B: slots and judgements -/
abbrev Env3 := List (Option D)
inductive R (α : Type) where
  | ok (a : α) (e : Env3) | exc (c : Str) (fs : List (Str × D)) | stk
abbrev M (α : Type) := Env3 → R α
def R.bind {α β : Type} (r : R α) (f : α → Env3 → R β) : R β := match r with
  | .ok a e => f a e
  | .exc c fs => .exc c fs
  | .stk => .stk
@[simp] theorem R.bind_ok {α β : Type} (a : α) (e : Env3) (f : α → Env3 → R β) : (R.ok a e).bind f = f a e := rfl
@[simp] theorem R.bind_exc {α β : Type} (c : Str) (fs : List (Str × D)) (f : α → Env3 → R β) : (R.exc c fs).bind f = .exc c fs := rfl
@[simp] theorem R.bind_stk {α β : Type} (f : α → Env3 → R β) : (R.stk : R α).bind f = .stk := rfl
def R.opt {α : Type} (o : Option α) (e : Env3) : R α := match o with
  | some a => .ok a e
  | none => .stk
@[simp] theorem R.opt_some {α : Type} (a : α) (e : Env3) : R.opt (some a) e = .ok a e := rfl
@[simp] theorem R.opt_none {α : Type} (e : Env3) : R.opt (none : Option α) e = .stk := rfl

/-- a def's own ghosts: the heap and what was frozen at its entry, the places handed in to be changed, the slots then -/
structure Gh where
  F0 : Hp
  H0 : Hp
  Wr : List Addr
  σ0 : St
  /-- places of then that may be frozen -/
  Fz : List Addr
structure Fr3 (g : Gh) (F H : Hp) : Prop where
  sub : Same F H
  keep : ∀ b o, g.H0 b = some o → b ∉ g.Wr → H b = some o
  frz : ∀ b o, F b = some o → g.F0 b = some o ∨ g.H0 b = none ∨ b ∈ g.Fz
  f0 : Same g.F0 F
  wr : ∀ q, q ∈ g.Wr → ∃ o, H q = some o
structure Rl (W : Kx) (io : List Nat) (g : Gh) (F : Hp) (mk : List Kd) (e : Env3) (rt : Nat → List Addr) (σ : St) (H : Hp) : Prop where
  fr : Fr3 g F H
  len : e.length ≤ σ.length
  var : ∀ i d, e[i]? = some (some d) → ∃ v, σ[i]? = some (some v) ∧ RepK W F H (mk.getD i .fr) d v (rt i)
  emp : ∀ i, (∀ d, e[i]? ≠ some (some d)) → rt i = []
  nd : ∀ i, (rt i).Nodup
  dj : ∀ i j p, i ≠ j → p ∈ rt i → p ∉ rt j
  own : ∀ i p, p ∈ rt i → g.H0 p = none ∨ (p ∈ g.Wr ∧ (i ∈ io ∨ p ∈ g.Fz))
  pin : ∀ i, i ∈ io → σ[i]? = g.σ0[i]?
section
variable {W : Kx} {io : List Nat} {g : Gh} {F F' H H' : Hp} {mk : List Kd} {e : Env3} {rt : Nat → List Addr} {σ : St}
theorem Rl.none (r : Rl W io g F mk e rt σ H) {i : Nat} {p : Addr} (h : p ∈ rt i) : F p = none ∧ ∃ o, H p = some o := by
  cases q : e[i]? with
  | none => rw [r.emp i fun d z => by rw [q] at z; cases z] at h; cases h
  | some x =>
    cases x with
    | none => rw [r.emp i fun d z => by rw [q] at z; cases z] at h; cases h
    | some d =>
      obtain ⟨v, _, k⟩ := r.var i d q
      exact k.none p h
/-- more is frozen, more stands; the owned places stand -/
theorem Rl.grow (r : Rl W io g F mk e rt σ H) (hf : Same F F') (fr : Fr3 g F' H') (ho : ∀ i p, p ∈ rt i → H' p = H p ∧ F' p = Option.none) : Rl W io g F' mk e rt σ H' where
  fr := fr
  len := r.len
  var := fun i d h => by
    obtain ⟨v, e1, k⟩ := r.var i d h
    exact ⟨v, e1, k.frame hf fun p hp => ho i p hp⟩
  emp := r.emp
  nd := r.nd
  dj := r.dj
  own := r.own
  pin := r.pin
/-- a fresh place in the heap, not frozen -/
theorem Fr3.fresh {p : Addr} {o : HO} (f : Fr3 g F H) (hp : H p = none) : Fr3 g F (upd H p o) where
  sub := fun b u h => by
    have h2 := f.sub b u h
    rw [upd_ne (ne_of_none h2 hp)]; exact h2
  keep := fun b u h hb => by
    have h2 := f.keep b u h hb
    rw [upd_ne (ne_of_none h2 hp)]; exact h2
  frz := f.frz
  f0 := f.f0
  wr := fun q hq => by
    obtain ⟨u, h2⟩ := f.wr q hq
    exact ⟨u, by rw [upd_ne (ne_of_none h2 hp)]; exact h2⟩
theorem Fr3.old (f : Fr3 g F H) {p : Addr} (hp : H p = none) : g.H0 p = none := by
  cases q : g.H0 p with
  | none => rfl
  | some o =>
    by_cases hm : p ∈ g.Wr
    · obtain ⟨o', e⟩ := f.wr p hm
      rw [hp] at e; cases e
    · rw [f.keep p o q hm] at hp; cases hp
end

/-- a def's own ghosts -/
theorem Fr3.frz0 {g : Gh} {F H : Hp} (f : Fr3 g F H) (h : g.Fz = []) : ∀ b o, F b = some o → g.F0 b = some o ∨ g.H0 b = none := fun b o q => by
  rcases f.frz b o q with z | z | z
  · exact .inl z
  · exact .inr z
  · rw [h] at z; cases z

/-- what an exception wants -/
def Exq (W : Kx) (g : Gh) (F : Hp) (E : WX) (c : Str) (fs : List (Str × D)) (σ : St) : Prop :=
  ∀ C a σ' H' F' vs, W.mg c = some (.ref C) → σ'.length = σ.length → Same F F' → Fr3 g F' H' → H' a = some (.xd ((fs.map (·.1)).zip vs)) → RepL W F' (fs.map (·.2)) vs → E (.ref C) (some a) σ' H'
/-- where an expression's value lies -/
inductive Op3 where
  | ex | sl (i : Nat)
/-- the value, and the slots behind it -/
structure ResK (W : Kx) (io : List Nat) (g : Gh) (F : Hp) (mk : List Kd) (k : Kd) (d : D) (e : Env3) (σ : St) (v : V) (H : Hp) : Prop where
  ex : ∃ F' rt rs, Same F F' ∧ Rl W io g F' mk e rt σ H ∧ RepK W F' H k d v rs ∧ rs.Nodup ∧ ∀ p, p ∈ rs → (∀ i, p ∉ rt i) ∧ g.H0 p = none ∧ p ∉ g.Wr
def tE (W : Kx) (io : List Nat) (E : WX) (mk : List Kd) (m : M D) (k : Kd) : TE := fun σ H Q =>
  ∃ g F e rt, Rl W io g F mk e rt σ H ∧ match m e with
    | .ok d e' => ∀ v H', ResK W io g F mk k d e' σ v H' → Q v H'
    | .exc c fs => Exq W g F E c fs σ
    | .stk => False
def kx (X : Cx) : Kx := ⟨X.K, X.mg⟩
/-- THE JUDGEMENT of an expression: it computes m -/
def EV (X : Cx) (io : List Nat) (E : WX) (mk : List Kd) (e : Expr) (m : M D) (k : Kd) : Prop := PE X e (tE (kx X) io E mk m k)

def AtO (W : Kx) (F : Hp) (σ : St) (o : Op3) (d : D) (v : V) : Prop := match o with
  | .ex => Rep W F d v
  | .sl i => σ[i]? = some (some v)
/-- an operand: a value that is frozen, or a slot's own list that is read where it is -/
def ResO (W : Kx) (io : List Nat) (g : Gh) (F : Hp) (mk : List Kd) (o : Op3) (d : D) (e : Env3) (σ : St) (v : V) (H : Hp) : Prop :=
  ∃ F' rt, Same F F' ∧ Rl W io g F' mk e rt σ H ∧ AtO W F' σ o d v
def tO (W : Kx) (io : List Nat) (E : WX) (mk : List Kd) (m : M D) (o : Op3) : TE := fun σ H Q =>
  ∃ g F e rt, Rl W io g F mk e rt σ H ∧ match m e with
    | .ok d e' => ∀ v H', ResO W io g F mk o d e' σ v H' → Q v H'
    | .exc c fs => Exq W g F E c fs σ
    | .stk => False
def OV (X : Cx) (io : List Nat) (E : WX) (mk : List Kd) (e : Expr) (m : M D) (o : Op3) : Prop := PE X e (tO (kx X) io E mk m o)
/-- an operand's datum when it is used -/
def opd (o : Op3) (d : D) (e : Env3) : Option D := match o with
  | .ex => some d
  | .sl i => (e[i]?).join.map D.un
/-- a datum that can be read: frozen, or the things of an own list are -/
def RepT (W : Kx) (F H : Hp) (d : D) (v : V) : Prop :=
  Rep W F d v ∨ (∃ ds p vs, d = .lst ds ∧ v = .ref p ∧ H p = some (.lst vs) ∧ RepL W F ds vs)
def Kd.flat : Kd → Bool
  | .fr => true
  | .own .fr => true
  | _ => false
section
variable {W : Kx} {io : List Nat} {g : Gh} {F F' H H' : Hp} {mk : List Kd} {e : Env3} {rt : Nat → List Addr} {σ : St}
theorem RepK.top {k : Kd} {d : D} {v : V} {ps : List Addr} (hk : k.flat = true) (r : RepK W F H k d v ps) : RepT W F H d.un v := by
  cases k with
  | fr => exact .inl (rep_un.mp r.1)
  | obj => cases hk
  | dct _ => cases hk
  | own k =>
    cases k with
    | own _ => cases hk
    | obj => cases hk
    | dct _ => cases hk
    | fr =>
      cases d with
      | lst ds =>
        simp only [RepK] at r
        obtain ⟨p, vs, qs, e1, e2, e3, rs, e4⟩ := r
        exact .inr ⟨ds, p, vs, rfl, e1, e2, (repKs_fr (H := H) (W := W) (F := F) |>.mp rs).1⟩
      | dic _ _ => exact .inl r.1
      | non => exact .inl r.1
      | bl _ => exact .inl r.1
      | int _ => exact .inl r.1
      | str _ => exact .inl r.1
      | tup _ => exact .inl r.1
      | ins _ _ _ => exact .inl r.1
      | scr _ => exact .inl r.1
      | fz _ => exact .inl (rep_un.mp r.1)
      | nd _ => exact .inl r.1
theorem RepT.lst {ds : List D} {v : V} (hs : Same F H) (r : RepT W F H (.lst ds) v) : ∃ a vs, v = .ref a ∧ H a = some (.lst vs) ∧ RepL W F ds vs := by
  rcases r with r | ⟨_, p, vs, e, e1, e2, r⟩
  · simp only [Rep] at r
    obtain ⟨a, vs, e, q, l⟩ := r
    exact ⟨a, vs, e, hs _ _ q, l⟩
  · cases e; exact ⟨p, vs, e1, e2, r⟩
theorem RepT.tup {ds : List D} {v : V} (hs : Same F H) (r : RepT W F H (.tup ds) v) : ∃ a vs, v = .ref a ∧ SqT W.K H a vs ∧ RepL W F ds vs := by
  rcases r with r | ⟨_, p, vs, e, e1, e2, r⟩
  · simp only [Rep] at r
    obtain ⟨a, vs, e, q, l⟩ := r
    exact ⟨a, vs, e, sqT_mono hs q, l⟩
  · cases e
theorem RepT.scr {ns : List Int} {v : V} (hs : Same F H) (r : RepT W F H (.scr ns) v) : ∃ a, v = .ref a ∧ SqL W.K H a (ns.map V.int) := by
  rcases r with r | ⟨_, p, vs, e, e1, e2, r⟩
  · simp only [Rep] at r
    obtain ⟨a, e, q⟩ := r
    exact ⟨a, e, sqL_mono hs q⟩
  · cases e
theorem RepT.int {i : Int} {v : V} (r : RepT W F H (.int i) v) : v = .int i := by
  rcases r with r | ⟨_, p, vs, e, _⟩
  · simpa [Rep] using r
  all_goals cases e
theorem RepT.str {s : List Nat} {v : V} (r : RepT W F H (.str s) v) : v = .str (S s) := by
  rcases r with r | ⟨_, p, vs, e, _⟩
  · simpa [Rep] using r
  all_goals cases e
theorem RepT.bl {b : Bool} {v : V} (r : RepT W F H (.bl b) v) : v = .bl b := by
  rcases r with r | ⟨_, p, vs, e, _⟩
  · simpa [Rep] using r
  all_goals cases e
theorem RepT.non {v : V} (r : RepT W F H .non v) : v = .non := by
  rcases r with r | ⟨_, p, vs, e, _⟩
  · simpa [Rep] using r
  all_goals cases e
theorem RepT.deep {d : D} {v : V} (hs : Same F H) (r : RepT W F H d v) : Rep W H d v := by
  rcases r with r | ⟨ds, p, vs, e, e1, e2, r⟩
  · exact r.mono hs
  · subst e; simp only [Rep]; exact ⟨p, vs, e1, e2, r.mono hs⟩
/-- an operand when it is used -/
theorem ResO.use {o : Op3} {d d' : D} {e2 : Env3} {v : V} {F1 : Hp} {rt2 : Nat → List Addr} (ho : ∀ i, o = .sl i → (mk.getD i .fr).flat = true)
    (r : AtO W F σ o d v) (hF : Same F F1) (l : Rl W io g F1 mk e2 rt2 σ H) (h : opd o d e2 = some d') : RepT W F1 H d' v := by
  cases o with
  | ex =>
    have e' : d = d' := Option.some.inj h
    subst e'
    exact .inl (Rep.mono hF r)
  | sl i =>
    have h1 : (e2[i]?).join.map D.un = some d' := h
    obtain ⟨d0, h3, h4⟩ := Option.map_eq_some_iff.mp h1
    subst h4
    have h2 : e2[i]? = some (some d0) := by
      cases q : e2[i]? with
      | none => rw [q] at h3; cases h3
      | some x => rw [q] at h3; simp at h3; rw [h3]
    obtain ⟨v', e1, k⟩ := l.var i d0 h2
    have r' : σ[i]? = some (some v) := r
    rw [r'] at e1
    cases e1
    exact k.top (ho i rfl)
end
end L3

namespace L3
open PySem PySem.Spec L2
open PyProof.Rows hiding St

/-! # L3C: expressions -/
theorem _root_.L2.PE.imp {X : Cx} {e : Expr} {t t' : TE} (h : PE X e t) (w : ∀ σ H Q, t' σ H Q → t σ H Q) : PE X e t' := ⟨fun pins s σ H Q I q => h.run pins s σ H Q I (w σ H Q q)⟩
theorem _root_.L2.PT.imp {X : Cx} {e : Expr} {t t' : TT} (h : PT X e t) (w : ∀ σ H Q, t' σ H Q → t σ H Q) : PT X e t' := ⟨fun pins s σ H Q I q => h.run pins s σ H Q I (w σ H Q q)⟩
section
variable {X : Cx} {io : List Nat} {E : WX} {mk : List Kd} {W : Kx} {g : Gh} {F F' H H' : Hp} {e e' : Env3} {rt : Nat → List Addr} {σ : St}

theorem ResK.fr0 {d : D} {v : V} (l : Rl W io g F mk e rt σ H) (r : Rep W F d v) : ResK W io g F mk .fr d e σ v H :=
  ⟨F, rt, [], Same.refl _, l, ⟨r, rfl⟩, .nil, fun p hp => by cases hp⟩
theorem ResK.fr1 {d : D} {v : V} (hs : Same F F') (l : Rl W io g F' mk e rt σ H) (r : Rep W F' d v) : ResK W io g F mk .fr d e σ v H :=
  ⟨F', rt, [], hs, l, ⟨r, rfl⟩, .nil, fun p hp => by cases hp⟩
theorem ResK.mono {k : Kd} {d : D} {v : V} (hs : Same F F') (r : ResK W io g F' mk k d e σ v H) : ResK W io g F mk k d e σ v H := by
  obtain ⟨F1, rt, rs, h1, l, k, n, o⟩ := r.ex
  exact ⟨F1, rt, rs, hs.trans h1, l, k, n, o⟩
theorem Exq.mono {c : Str} {fs : List (Str × D)} (hs : Same F F') (h : Exq W g F E c fs σ) : Exq W g F' E c fs σ :=
  fun C a σ' H' G vs h1 h2 h3 => h C a σ' H' G vs h1 h2 (hs.trans h3)
/-- what is owned is frozen -/
theorem Fr3.freeze {ps : List Addr} (f : Fr3 g F H) (hn : ∀ p ∈ ps, F p = none) (ho : ∀ p ∈ ps, g.H0 p = none ∨ p ∈ g.Fz) : Fr3 g (L3.frz F H ps) H where
  sub := frz_sub f.sub
  keep := f.keep
  frz := fun b o h => by
    unfold L3.frz at h; split at h
    · rename_i m; exact .inr (ho b m)
    · exact f.frz b o h
  f0 := f.f0.trans (frz_of hn)
  wr := f.wr
theorem ResK.freeze {k : Kd} {d : D} {v : V} (hk : k.frz = true) (r : ResK W io g F mk k d e σ v H) : ResK W io g F mk .fr d e σ v H := by
  obtain ⟨F1, rt, rs, h1, l, k, n, o⟩ := r.ex
  have hn := fun p hp => (k.none p hp).1
  refine .fr1 (h1.trans (frz_of hn)) (l.grow (frz_of hn) (l.fr.freeze hn fun p hp => .inl (o p hp).2.1) fun i p hp => ⟨rfl, ?_⟩) (RepK.toRep (frz_of hn) hk k fun p hp => frz_in hp)
  rw [frz_out fun m => (o p m).1 i hp]
  exact (l.none hp).1

/-! ### the monad's small words -/
def mVar (i : Nat) : M D := fun e => match e[i]? with
  | some (some d) => .ok d e
  | _ => .stk
def mMv (i : Nat) : M D := fun e => match e[i]? with
  | some (some d) => .ok d (e.set i none)
  | _ => .stk
def mC (d : D) : M D := fun e => .ok d e

theorem ev_var (i : Nat) {x : Str} {pos : Pos} (hk : mk.getD i .fr = .fr := by rfl) (hN : X.N[i]? = some x := by rfl) (hv : Vis X.env.scope x := by first | exact Or.inl rfl | exact Or.inr (Or.inl rfl) | exact Or.inr (Or.inr rfl)) (hd : (x == ("__debug__" : Str)) = false := by decide)
    (hcd : (x == ("__classdict__" : Str)) = false := by decide) : EV X io E mk (.Name x pos) (mVar i) .fr := by
  refine (pe_var hN hv hd hcd).imp ?_
  rintro σ H Q ⟨g, F, e, rt, l, h⟩
  unfold mVar at h
  cases h1 : e[i]? with
  | none => rw [h1] at h; exact h.elim
  | some o =>
    cases o with
    | none => rw [h1] at h; exact h.elim
    | some d =>
      rw [h1] at h
      obtain ⟨v, hv, k⟩ := l.var i _ h1
      rw [hk] at k
      exact ⟨v, hv, h v H (.fr0 l k.1)⟩
theorem ov_sl (i : Nat) {x : Str} {pos : Pos} (hN : X.N[i]? = some x := by rfl) (hv : Vis X.env.scope x := by first | exact Or.inl rfl | exact Or.inr (Or.inl rfl) | exact Or.inr (Or.inr rfl)) (hd : (x == ("__debug__" : Str)) = false := by decide)
    (hcd : (x == ("__classdict__" : Str)) = false := by decide) : OV X io E mk (.Name x pos) (mVar i) (.sl i) := by
  refine (pe_var hN hv hd hcd).imp ?_
  rintro σ H Q ⟨g, F, e, rt, l, h⟩
  unfold mVar at h
  cases h1 : e[i]? with
  | none => rw [h1] at h; exact h.elim
  | some o =>
    cases o with
    | none => rw [h1] at h; exact h.elim
    | some d =>
      rw [h1] at h
      obtain ⟨v, hv, k⟩ := l.var i _ h1
      exact ⟨v, hv, h v H ⟨F, rt, Same.refl _, l, hv⟩⟩
theorem EV.ov {x : Expr} {m : M D} (h : EV X io E mk x m .fr) : OV X io E mk x m .ex := by
  refine PE.imp h ?_
  rintro σ H Q ⟨g, F, e, rt, l, h⟩
  refine ⟨g, F, e, rt, l, ?_⟩
  cases q : m e with
  | ok d e' =>
    rw [q] at h
    intro v H' r
    obtain ⟨F1, rt1, rs, h1, l1, k, n, o⟩ := r.ex
    exact h v H' ⟨F1, rt1, h1, l1, k.1⟩
  | exc c fs => rw [q] at h; exact h
  | stk => rw [q] at h; exact h
theorem EV.fz {x : Expr} {m : M D} {k : Kd} (h : EV X io E mk x m k) (hk : k.frz = true := by rfl) : EV X io E mk x m .fr := by
  refine PE.imp h ?_
  rintro σ H Q ⟨g, F, e, rt, l, h⟩
  refine ⟨g, F, e, rt, l, ?_⟩
  cases q : m e with
  | ok d e' =>
    rw [q] at h
    exact fun v H' r => h v H' (r.freeze hk)
  | exc c fs => rw [q] at h; exact h
  | stk => rw [q] at h; exact h
theorem ev_c {x : Expr} {d : D} {v : V} (h : PE X x (tC v)) (r : ∀ F, Rep (kx X) F d v) : EV X io E mk x (mC d) .fr := by
  refine h.imp ?_
  rintro σ H Q ⟨g, F, e, rt, l, h⟩
  exact h v H (.fr0 l (r F))
theorem ev_int {i : Int} {j pos} : EV X io E mk (.Constant (.int i) j pos) (mC (.int i)) .fr := ev_c pe_int fun F => by simp [Rep]
theorem ev_bl {b j pos} : EV X io E mk (.Constant (.bool b) j pos) (mC (.bl b)) .fr := ev_c pe_bl fun F => by simp [Rep]
theorem ev_non {j pos} : EV X io E mk (.Constant .none j pos) (mC .non) .fr := ev_c pe_non fun F => by simp [Rep]
theorem ev_str (s : List Nat) {x : Str} {j pos} (hs : x = S s := by decide +kernel) : EV X io E mk (.Constant (.str x) j pos) (mC (.str s)) .fr := by
  subst hs
  exact ev_c pe_str fun F => by simp [Rep]
theorem ev_glob {x : Str} (d : D) {v : V} {u : Value} {pos : Pos} (hg : Gl X x) (hm : X.mg x = some u) (r : RelV v u) (hr : ∀ F, Rep (kx X) F d v) (hd : (x == ("__debug__" : Str)) = false := by decide) : EV X io E mk (.Name x pos) (mC d) .fr :=
  ev_c (pe_glob hg hm r hd) hr

/-! ### operators by values -/
/-- an operation that makes no object or a new tuple, list at a fresh place: by data -/
def PureOp (W : Kx) (r : R2) (f : D → D → Option D) : Prop :=
  ∀ (F H : Hp) (x y z : D) (vx vy : V) (Q : VK), Same F H → RepT W F H x vx → RepT W F H y vy → f x y = some z → (∀ v F' H', Same F F' → Same F' H' → Same H H' → (∀ b, H b ≠ none → F' b = F b) → Rep W F' z v → Q v H') → r vx vy H Q
theorem Fr3.ext (f : Fr3 g F H) (h1 : Same F F') (h2 : Same F' H') (h3 : Same H H') (h4 : ∀ b, H b ≠ none → F' b = F b) : Fr3 g F' H' where
  sub := h2
  keep := fun b o h hb => h3 b o (f.keep b o h hb)
  frz := fun b o h => by
    cases q : H b with
    | some u =>
      rw [h4 b (by rw [q]; simp)] at h
      exact f.frz b o h
    | none =>
      exact .inr (.inl (f.old q))
  f0 := f.f0.trans h1
  wr := fun q hq => by obtain ⟨o, e⟩ := f.wr q hq; exact ⟨o, h3 q o e⟩
theorem Rl.ext (l : Rl W io g F mk e rt σ H) (h1 : Same F F') (h2 : Same F' H') (h3 : Same H H') (h4 : ∀ b, H b ≠ Option.none → F' b = F b) : Rl W io g F' mk e rt σ H' :=
  l.grow h1 (l.fr.ext h1 h2 h3 h4) fun i p hp => by
    obtain ⟨a, o, b⟩ := l.none hp
    exact ⟨by rw [b]; exact h3 p o b, by rw [h4 p (by rw [b]; simp)]; exact a⟩

/-- two operands, one behind the other -/
def m2 (oa ob : Op3) (f : D → D → Option D) (ma mb : M D) : M D := fun e => (ma e).bind fun da e1 => (mb e1).bind fun db e2 =>
  match opd oa da e2, opd ob db e2 with
  | some x, some y => .opt (f x y) e2
  | _, _ => .stk
def opsOk (mk : List Kd) (o : Op3) : Bool := match o with
  | .ex => true
  | .sl i => (mk.getD i .fr).flat
theorem opsOk.h {o : Op3} (h : opsOk mk o = true) : ∀ i, o = .sl i → (mk.getD i .fr).flat = true := fun i e => by subst e; exact h
theorem t2_of {ma mb : M D} {oa ob : Op3} {f : D → D → Option D} {r : R2} (hp : PureOp W r f) (ka : opsOk mk oa = true) (kb : opsOk mk ob = true) (Q : VK)
    (h : tE W io E mk (m2 oa ob f ma mb) .fr σ H Q) : tO W io E mk ma oa σ H fun x H1 => tO W io E mk mb ob σ H1 fun y H2 => r x y H2 Q := by
  obtain ⟨g, F, e, rt, l, h⟩ := h
  refine ⟨g, F, e, rt, l, ?_⟩
  unfold m2 at h
  cases qa : ma e with
  | exc c fs => rw [qa] at h; exact h
  | stk => rw [qa] at h; exact h
  | ok da e1 =>
    rw [qa] at h
    rintro va H1 ⟨F1, rt1, s1, l1, ra⟩
    refine ⟨g, F1, e1, rt1, l1, ?_⟩
    simp only [R.bind_ok] at h
    cases qb : mb e1 with
    | exc c fs => rw [qb] at h; exact Exq.mono s1 h
    | stk => rw [qb] at h; exact h
    | ok db e2 =>
      rw [qb] at h
      rintro vb H2 ⟨F2, rt2, s2, l2, rb⟩
      simp only [R.bind_ok] at h
      cases xa : opd oa da e2 with
      | none => rw [xa] at h; exact h.elim
      | some x =>
        cases xb : opd ob db e2 with
        | none => rw [xa, xb] at h; exact h.elim
        | some y =>
          rw [xa, xb] at h
          cases xf : f x y with
          | none => simp only [xf] at h; exact h.elim
          | some z =>
            simp only [xf] at h
            have tx := ResO.use (opsOk.h ka) ra s2 l2 xa
            have ty := ResO.use (opsOk.h kb) rb (Same.refl _) l2 xb
            refine hp F2 H2 x y z va vb Q l2.fr.sub tx ty xf fun v F' H' h1 h2 h3 h4 rz => ?_
            exact h v H' (.mono (s1.trans s2) (.fr1 h1 (l2.ext h1 h2 h3 h4) rz))
theorem ev_op {op : Operator} {r : R2} {a b : Expr} {pos : Pos} {ma mb : M D} {oa ob : Op3} {f : D → D → Option D} (ho : OpR X (binaryOp op) r) (hp : PureOp (kx X) r f) (ha : OV X io E mk a ma oa) (hb : OV X io E mk b mb ob)
    (ka : opsOk mk oa = true := by rfl) (kb : opsOk mk ob = true := by rfl) : EV X io E mk (.BinOp a op b pos) (m2 oa ob f ma mb) .fr :=
  (pe_op ho ha hb).imp fun σ H Q h => t2_of hp ka kb Q h
theorem ev_cmp {op : CmpOp} {r : R2} {a b : Expr} {pos : Pos} {ma mb : M D} {oa ob : Op3} {f : D → D → Option D} (ho : OpR X (compareOp op) r) (hp : PureOp (kx X) r f) (ha : OV X io E mk a ma oa) (hb : OV X io E mk b mb ob)
    (hm : behindInMarks op b = false) (ka : opsOk mk oa = true := by rfl) (kb : opsOk mk ob = true := by rfl) : EV X io E mk (.Compare a [op] [b] pos) (m2 oa ob f ma mb) .fr :=
  (pe_cmpR ho ha hb hm).imp fun σ H Q h => t2_of hp ka kb Q h
theorem ev_ix {r : R2} {a b : Expr} {pos : Pos} {ma mb : M D} {oa ob : Op3} {f : D → D → Option D} (ho : IxR X r) (hp : PureOp (kx X) r f) (ha : OV X io E mk a ma oa) (hb : OV X io E mk b mb ob) (hs : PlainIx b := by exact fun _ _ => rfl)
    (ka : opsOk mk oa = true := by rfl) (kb : opsOk mk ob = true := by rfl) : EV X io E mk (.Subscript a b pos) (m2 oa ob f ma mb) .fr :=
  (pe_ix ho ha hb hs).imp fun σ H Q h => t2_of hp ka kb Q h
end
end L3

namespace L3
open PySem PySem.Spec L2
open PyProof.Rows hiding St

/-! # L3D: tests, arguments, displays, built-in functions and methods -/
section
variable {X : Cx} {io : List Nat} {E : WX} {mk : List Kd} {W : Kx} {g : Gh} {F F' H H' : Hp} {rt : Nat → List Addr} {σ : St}

/-! ### tests -/
def tT (W : Kx) (io : List Nat) (E : WX) (mk : List Kd) (m : M Bool) : TT := fun σ H Q =>
  ∃ g F e rt, Rl W io g F mk e rt σ H ∧ match m e with
    | .ok b e' => ∀ F' rt' H', Same F F' → Rl W io g F' mk e' rt' σ H' → Q b H'
    | .exc c fs => Exq W g F E c fs σ
    | .stk => False
def TV (X : Cx) (io : List Nat) (E : WX) (mk : List Kd) (e : Expr) (m : M Bool) : Prop := PT X e (tT (kx X) io E mk m)
def WV (X : Cx) (io : List Nat) (E : WX) (mk : List Kd) (e : Expr) (m : M Bool) : Prop := PW X e (tT (kx X) io E mk m)
theorem _root_.L2.PW.imp {e : Expr} {t t' : TT} (h : PW X e t) (w : ∀ σ H Q, t' σ H Q → t σ H Q) : PW X e t' := ⟨fun wh pins s σ H Q I q => h.run wh pins s σ H Q I (w σ H Q q)⟩
def mB (m : M D) : M Bool := fun e => (m e).bind fun d e1 => match d with
  | .bl b => .ok b e1
  | _ => .stk
theorem Rep.of_bl {b : Bool} {v : V} (r : Rep W F (.bl b) v) : v = .bl b := by simpa [Rep] using r
theorem Rep.of_int {b : Int} {v : V} (r : Rep W F (.int b) v) : v = .int b := by simpa [Rep] using r
theorem Rep.of_str {b : List Nat} {v : V} (r : Rep W F (.str b) v) : v = .str (S b) := by simpa [Rep] using r
theorem Rep.bl {b : Bool} : Rep W F (.bl b) (.bl b) := by simp [Rep]
theorem Rep.int {b : Int} : Rep W F (.int b) (.int b) := by simp [Rep]
theorem Rep.str {b : List Nat} : Rep W F (.str b) (.str (S b)) := by simp [Rep]
theorem Rep.non : Rep W F .non .non := by simp [Rep]
theorem tB_of {m : M D} (Q : Bool → Hp → Prop) (h : tT W io E mk (mB m) σ H Q) : tB (tE W io E mk m .fr) σ H Q := by
  obtain ⟨g, F, e, rt, l, h⟩ := h
  refine ⟨g, F, e, rt, l, ?_⟩
  unfold mB at h
  cases q : m e with
  | exc c fs => rw [q] at h; exact h
  | stk => rw [q] at h; exact h
  | ok d e1 =>
    rw [q] at h
    intro v H' r
    obtain ⟨F1, rt1, rs, h1, l1, k, n, o⟩ := r.ex
    cases d with
    | bl b => exact ⟨b, Rep.of_bl k.1, h F1 rt1 H' h1 l1⟩
    | _ => exact h.elim
theorem tv_val {x : Expr} {m : M D} (h : EV X io E mk x m .fr) (he : ∀ whole, isTrue x X.env whole = (do let v ← whole; standAt x.pos; holding [v] (truthy v)) := by intro _; rfl) : TV X io E mk x (mB m) :=
  (pt_val h he).imp fun σ H Q h => tB_of Q h
theorem tv_cmp {op : CmpOp} {r : R2} {a b : Expr} {pos : Pos} {ma mb : M D} {oa ob : Op3} {f : D → D → Option D} (ho : OpR X (compareOp op) r) (hp : PureOp (kx X) r f) (ha : OV X io E mk a ma oa) (hb : OV X io E mk b mb ob)
    (hm : behindInMarks op b = false) (ka : opsOk mk oa = true := by rfl) (kb : opsOk mk ob = true := by rfl) : TV X io E mk (.Compare a [op] [b] pos) (mB (m2 oa ob f ma mb)) :=
  (pt_cmpR ho ha hb hm).imp fun σ H Q h => by
    have h2 := tB_of Q h
    exact t2_of (W := kx X) hp ka kb (fun x H' => ∃ k, x = V.bl k ∧ Q k H') h2
def mNot (m : M Bool) : M Bool := fun e => (m e).bind fun b e1 => .ok (!b) e1
def mAndT (ma mb : M Bool) : M Bool := fun e => (ma e).bind fun b e1 => if b = true then mb e1 else .ok false e1
def mOrT (ma mb : M Bool) : M Bool := fun e => (ma e).bind fun b e1 => if b = true then .ok true e1 else mb e1
theorem tv_not {a : Expr} {pos : Pos} {m : M Bool} (h : TV X io E mk a m) : TV X io E mk (.UnaryOp .Not a pos) (mNot m) :=
  (pt_not h).imp fun σ H Q h => by
    obtain ⟨g, F, e, rt, l, h⟩ := h
    refine ⟨g, F, e, rt, l, ?_⟩
    unfold mNot at h
    cases q : m e with
    | exc c fs => rw [q] at h; exact h
    | stk => rw [q] at h; exact h
    | ok d e1 => rw [q] at h; exact h
theorem wv_and1 {a : Expr} {pos : Pos} {m : M Bool} (h : TV X io E mk a m) : WV X io E mk (.BoolOp .And [a] pos) m := pw_and1 h
theorem wv_or1 {a : Expr} {pos : Pos} {m : M Bool} (h : TV X io E mk a m) : WV X io E mk (.BoolOp .Or [a] pos) m := pw_or1 h
theorem wv_and {a b : Expr} {rest : List Expr} {pos : Pos} {ma mb : M Bool} (ha : TV X io E mk a ma) (hb : WV X io E mk (.BoolOp .And (b :: rest) pos) mb) : WV X io E mk (.BoolOp .And (a :: b :: rest) pos) (mAndT ma mb) :=
  (pw_and ha hb).imp fun σ H Q h => by
    obtain ⟨g, F, e, rt, l, h⟩ := h
    refine ⟨g, F, e, rt, l, ?_⟩
    unfold mAndT at h
    cases q : ma e with
    | exc c fs => rw [q] at h; exact h
    | stk => rw [q] at h; exact h
    | ok d e1 =>
      rw [q] at h
      intro F1 rt1 H1 s1 l1
      cases d with
      | true =>
        simp only [R.bind_ok, if_true] at h ⊢
        refine ⟨g, F1, e1, rt1, l1, ?_⟩
        cases q2 : mb e1 with
        | exc c fs => rw [q2] at h; exact Exq.mono s1 h
        | stk => rw [q2] at h; exact h
        | ok d2 e2 => rw [q2] at h; exact fun F2 rt2 H2 s2 l2 => h F2 rt2 H2 (s1.trans s2) l2
      | false => exact h F1 rt1 H1 s1 l1
theorem wv_or {a b : Expr} {rest : List Expr} {pos : Pos} {ma mb : M Bool} (ha : TV X io E mk a ma) (hb : WV X io E mk (.BoolOp .Or (b :: rest) pos) mb) : WV X io E mk (.BoolOp .Or (a :: b :: rest) pos) (mOrT ma mb) :=
  (pw_or ha hb).imp fun σ H Q h => by
    obtain ⟨g, F, e, rt, l, h⟩ := h
    refine ⟨g, F, e, rt, l, ?_⟩
    unfold mOrT at h
    cases q : ma e with
    | exc c fs => rw [q] at h; exact h
    | stk => rw [q] at h; exact h
    | ok d e1 =>
      rw [q] at h
      intro F1 rt1 H1 s1 l1
      cases d with
      | false =>
        simp only [R.bind_ok, Bool.false_eq_true, if_false] at h ⊢
        refine ⟨g, F1, e1, rt1, l1, ?_⟩
        cases q2 : mb e1 with
        | exc c fs => rw [q2] at h; exact Exq.mono s1 h
        | stk => rw [q2] at h; exact h
        | ok d2 e2 => rw [q2] at h; exact fun F2 rt2 H2 s2 l2 => h F2 rt2 H2 (s1.trans s2) l2
      | true => exact h F1 rt1 H1 s1 l1
theorem WV.tv {a : Expr} {m : M Bool} (h : WV X io E mk a m) : TV X io E mk a m := h.pt
/-- and, or, not as values -/
def mAnd (ma mb : M D) : M D := fun e => (mB ma e).bind fun b e1 => if b = true then mb e1 else .ok (.bl false) e1
def mOr (ma mb : M D) : M D := fun e => (mB ma e).bind fun b e1 => if b = true then .ok (.bl true) e1 else mb e1
def mNotV (ma : M D) : M D := fun e => (mB ma e).bind fun b e1 => .ok (.bl (!b)) e1
theorem EV.bl {a : Expr} {m : M D} (h : EV X io E mk a m .fr) {op : BoolOp} {pos : Pos} : EV X io E mk (.BoolOp op [a] pos) m .fr := pe_one h
/-- from a value to a bool, further -/
theorem bool_step {ma : M D} {f : Bool → M D} {Q : VK} {kd : Kd} (h : tE W io E mk (fun e => (mB ma e).bind fun b e1 => f b e1) kd σ H Q) :
    tE W io E mk ma .fr σ H fun x H1 => ∃ c, x = .bl c ∧ tE W io E mk (f c) kd σ H1 Q := by
  obtain ⟨g, F, e, rt, l, h⟩ := h
  refine ⟨g, F, e, rt, l, ?_⟩
  unfold mB at h
  dsimp only at h
  cases q : ma e with
  | exc c fs => rw [q] at h; exact h
  | stk => rw [q] at h; exact h
  | ok d e1 =>
    rw [q] at h
    intro v H1 r
    obtain ⟨F1, rt1, rs, h1, l1, k, n, o⟩ := r.ex
    cases d with
    | bl b =>
      refine ⟨b, Rep.of_bl k.1, g, F1, e1, rt1, l1, ?_⟩
      simp only [R.bind_ok] at h
      cases q2 : f b e1 with
      | exc c fs => rw [q2] at h; exact Exq.mono h1 h
      | stk => rw [q2] at h; exact h
      | ok d2 e2 => rw [q2] at h; exact fun v2 H2 r2 => h v2 H2 (r2.mono h1)
    | _ => exact h.elim
theorem tE_ret {d : D} {v : V} {Q : VK} (h : tE W io E mk (fun e => .ok d e) .fr σ H Q) (r : ∀ F, Rep W F d v) : Q v H := by
  obtain ⟨g, F, e, rt, l, h⟩ := h
  exact h v H (.fr0 l (r F))
theorem ev_and {a b : Expr} {rest : List Expr} {pos : Pos} {ma mb : M D} (ha : EV X io E mk a ma .fr) (hb : EV X io E mk (.BoolOp .And (b :: rest) pos) mb .fr) : EV X io E mk (.BoolOp .And (a :: b :: rest) pos) (mAnd ma mb) .fr :=
  (pe_and ha hb).imp fun σ H Q h => by
    obtain ⟨g, F, e, rt, l, h0⟩ := bool_step (f := fun c => if c = true then mb else fun e1 => .ok (.bl false) e1) (by
      obtain ⟨g, F, e, rt, l, h⟩ := h
      refine ⟨g, F, e, rt, l, ?_⟩
      have e0 : (fun e => (mB ma e).bind fun b e1 => (if b = true then mb else fun e1 => R.ok (D.bl false) e1) e1) e = mAnd ma mb e := by
        unfold mAnd
        show (mB ma e).bind _ = (mB ma e).bind _
        congr 1; funext b e1; cases b <;> rfl
      rw [e0]; exact h)
    refine ⟨g, F, e, rt, l, ?_⟩
    cases q : ma e with
    | exc c fs => rw [q] at h0; exact h0
    | stk => rw [q] at h0; exact h0
    | ok d e1 =>
      rw [q] at h0
      intro v H1 r
      obtain ⟨c, ec, q2⟩ := h0 v H1 r
      refine ⟨c, ec, ?_⟩
      cases c with
      | true => exact q2
      | false => exact tE_ret q2 fun F => Rep.bl
theorem ev_or {a b : Expr} {rest : List Expr} {pos : Pos} {ma mb : M D} (ha : EV X io E mk a ma .fr) (hb : EV X io E mk (.BoolOp .Or (b :: rest) pos) mb .fr) : EV X io E mk (.BoolOp .Or (a :: b :: rest) pos) (mOr ma mb) .fr :=
  (pe_or ha hb).imp fun σ H Q h => by
    obtain ⟨g, F, e, rt, l, h0⟩ := bool_step (f := fun c => if c = true then fun e1 => .ok (.bl true) e1 else mb) (by
      obtain ⟨g, F, e, rt, l, h⟩ := h
      refine ⟨g, F, e, rt, l, ?_⟩
      have e0 : (fun e => (mB ma e).bind fun b e1 => (if b = true then fun e1 => R.ok (D.bl true) e1 else mb) e1) e = mOr ma mb e := by
        unfold mOr
        show (mB ma e).bind _ = (mB ma e).bind _
        congr 1; funext b e1; cases b <;> rfl
      rw [e0]; exact h)
    refine ⟨g, F, e, rt, l, ?_⟩
    cases q : ma e with
    | exc c fs => rw [q] at h0; exact h0
    | stk => rw [q] at h0; exact h0
    | ok d e1 =>
      rw [q] at h0
      intro v H1 r
      obtain ⟨c, ec, q2⟩ := h0 v H1 r
      refine ⟨c, ec, ?_⟩
      cases c with
      | false => exact q2
      | true => exact tE_ret q2 fun F => Rep.bl
theorem ev_not {a : Expr} {pos : Pos} {ma : M D} (ha : EV X io E mk a ma .fr) : EV X io E mk (.UnaryOp .Not a pos) (mNotV ma) .fr :=
  (pe_not ha).imp fun σ H Q h => by
    obtain ⟨g, F, e, rt, l, h0⟩ := bool_step (f := fun c e1 => .ok (.bl (!c)) e1) h
    refine ⟨g, F, e, rt, l, ?_⟩
    cases q : ma e with
    | exc c fs => rw [q] at h0; exact h0
    | stk => rw [q] at h0; exact h0
    | ok d e1 =>
      rw [q] at h0
      intro v H1 r
      obtain ⟨c, ec, q2⟩ := h0 v H1 r
      exact ⟨c, ec, tE_ret q2 fun F => Rep.bl⟩
def mIf (t : M Bool) (ma mb : M D) : M D := fun e => (t e).bind fun b e1 => if b = true then ma e1 else mb e1
theorem ev_if {c a b : Expr} {pos : Pos} {t : M Bool} {ma mb : M D} {k : Kd} (hc : TV X io E mk c t) (ha : EV X io E mk a ma k) (hb : EV X io E mk b mb k) : EV X io E mk (.IfExp c a b pos) (mIf t ma mb) k :=
  (pe_ifExp hc ha hb).imp fun σ H Q h => by
    obtain ⟨g, F, e, rt, l, h⟩ := h
    refine ⟨g, F, e, rt, l, ?_⟩
    unfold mIf at h
    cases q : t e with
    | exc c fs => rw [q] at h; exact h
    | stk => rw [q] at h; exact h
    | ok d e1 =>
      rw [q] at h
      intro F1 rt1 H1 s1 l1
      cases d with
      | true =>
        simp only [R.bind_ok, if_true] at h ⊢
        refine ⟨g, F1, e1, rt1, l1, ?_⟩
        cases q2 : ma e1 with
        | exc c fs => rw [q2] at h; exact Exq.mono s1 h
        | stk => rw [q2] at h; exact h
        | ok d2 e2 => rw [q2] at h; exact fun v2 H2 r2 => h v2 H2 (r2.mono s1)
      | false =>
        simp only [R.bind_ok, Bool.false_eq_true, if_false] at h ⊢
        refine ⟨g, F1, e1, rt1, l1, ?_⟩
        cases q2 : mb e1 with
        | exc c fs => rw [q2] at h; exact Exq.mono s1 h
        | stk => rw [q2] at h; exact h
        | ok d2 e2 => rw [q2] at h; exact fun v2 H2 r2 => h v2 H2 (r2.mono s1)

/-! ### arguments -/
def AtOs (W : Kx) (F : Hp) (σ : St) : List Op3 → List D → List V → Prop
  | [], ds, vs => ds = [] ∧ vs = []
  | o :: os, ds, vs => ∃ d r v w, ds = d :: r ∧ vs = v :: w ∧ AtO W F σ o d v ∧ AtOs W F σ os r w
theorem AtO.mono (h : Same F F') {o : Op3} {d : D} {v : V} (r : AtO W F σ o d v) : AtO W F' σ o d v := by
  cases o with
  | ex => exact Rep.mono h r
  | sl i => exact r
theorem AtOs.mono (h : Same F F') : ∀ {os : List Op3} {ds : List D} {vs : List V}, AtOs W F σ os ds vs → AtOs W F' σ os ds vs
  | [], _, _, r => r
  | o :: os, _, _, ⟨d, r, v, w, e1, e2, a, b⟩ => ⟨d, r, v, w, e1, e2, a.mono h, b.mono h⟩
theorem AtOs.len : ∀ {os : List Op3} {ds : List D} {vs : List V}, AtOs W F σ os ds vs → ds.length = os.length ∧ vs.length = os.length
  | [], _, _, ⟨e1, e2⟩ => by subst e1 e2; exact ⟨rfl, rfl⟩
  | o :: os, _, _, ⟨d, r, v, w, e1, e2, a, b⟩ => by subst e1 e2; have := b.len; simp [this.1, this.2]
def tAs (W : Kx) (io : List Nat) (E : WX) (mk : List Kd) (m : M (List D)) (os : List Op3) : TA := fun σ H Q =>
  ∃ g F e rt, Rl W io g F mk e rt σ H ∧ match m e with
    | .ok ds e' => ∀ vs F' rt' H', Same F F' → Rl W io g F' mk e' rt' σ H' → AtOs W F' σ os ds vs → Q vs H'
    | .exc c fs => Exq W g F E c fs σ
    | .stk => False
def AV (X : Cx) (io : List Nat) (E : WX) (mk : List Kd) (es : List Expr) (m : M (List D)) (os : List Op3) : Prop := PA X es (tAs (kx X) io E mk m os)
theorem _root_.L2.PA.imp {es : List Expr} {t t' : TA} (h : PA X es t) (w : ∀ σ H Q, t' σ H Q → t σ H Q) : PA X es t' := ⟨fun pos pins s σ H Q I q => h.run pos pins s σ H Q I (w σ H Q q)⟩
def mNil : M (List D) := fun e => .ok [] e
def mCons (m : M D) (ms : M (List D)) : M (List D) := fun e => (m e).bind fun d e1 => (ms e1).bind fun ds e2 => .ok (d :: ds) e2
theorem av_nil : AV X io E mk [] mNil [] := PA.imp pa_nil fun σ H Q h => by
  obtain ⟨g, F, e, rt, l, h⟩ := h
  exact h [] F rt H (Same.refl _) l ⟨rfl, rfl⟩
theorem av_cons {x : Expr} {xs : List Expr} {m : M D} {ms : M (List D)} {o : Op3} {os : List Op3} (ha : OV X io E mk x m o) (hr : AV X io E mk xs ms os) (hs : starEach (x :: xs) X.env = (false, eval x X.env) :: starEach xs X.env := by rfl) :
    AV X io E mk (x :: xs) (mCons m ms) (o :: os) := (pa_cons ha hr hs).imp fun σ H Q h => by
  obtain ⟨g, F, e, rt, l, h⟩ := h
  refine ⟨g, F, e, rt, l, ?_⟩
  unfold mCons at h
  cases q : m e with
  | exc c fs => rw [q] at h; exact h
  | stk => rw [q] at h; exact h
  | ok d e1 =>
    rw [q] at h
    rintro v H1 ⟨F1, rt1, s1, l1, a1⟩
    simp only [R.bind_ok] at h
    refine ⟨g, F1, e1, rt1, l1, ?_⟩
    cases q2 : ms e1 with
    | exc c fs => rw [q2] at h; exact Exq.mono s1 h
    | stk => rw [q2] at h; exact h
    | ok ds e2 =>
      rw [q2] at h
      intro vs F2 rt2 H2 s2 l2 a2
      exact h (v :: vs) F2 rt2 H2 (s1.trans s2) l2 ⟨d, ds, v, vs, rfl, rfl, a1.mono s2, a2⟩
theorem atOs_ex : ∀ {os : List Op3} {ds : List D} {vs : List V}, AtOs W F σ os ds vs → os.all (fun o => match o with | .ex => true | _ => false) = true → RepL W F ds vs
  | [], _, _, ⟨e1, e2⟩, _ => by subst e1 e2; exact .nil
  | o :: os, _, _, ⟨d, r, v, w, e1, e2, a, b⟩, h => by
    subst e1 e2
    rw [List.all_cons, Bool.and_eq_true] at h
    cases o with
    | ex => exact .cons a (atOs_ex b h.2)
    | sl i => exact absurd h.1 Bool.false_ne_true
/-- a new tuple, a new list -/
theorem sameUpd {H : Hp} {p : Addr} {o : HO} (h : H p = none) : Same H (upd H p o) := fun b x e => by rw [upd_ne (ne_of_none e h)]; exact e
theorem sameUpd2 {F H : Hp} {p : Addr} {o : HO} (h : Same F H) : Same (L2.upd F p o) (L2.upd H p o) := fun b x e => by
  by_cases hb : b = p
  · subst hb; rw [upd_same] at e ⊢; exact e
  · rw [upd_ne hb] at e ⊢; exact h b x e
def PureK (W : Kx) (F H : Hp) (z : D) (Q : VK) : Prop := ∀ v F' H', Same F F' → Same F' H' → Same H H' → (∀ b, H b ≠ none → F' b = F b) → Rep W F' z v → Q v H'
def NewK (W : Kx) (F H : Hp) (zs : List D) (Q : VK) : Prop := ∀ p vs, H p = none → RepL W F zs vs → Q (.ref p) (upd H p (.lst vs))
theorem PureK.here {z : D} {v : V} {Q : VK} (h : PureK W F H z Q) (hs : Same F H) (r : Rep W F z v) : Q v H := h v F H (Same.refl _) hs (Same.refl _) (fun _ _ => rfl) r
theorem fresh_F {p : Addr} (hs : Same F H) (hp : H p = none) : F p = none := hs.free hp
theorem PureK.new {zs : List D} {Q : VK} (h : PureK W F H (.lst zs) Q) (hs : Same F H) : NewK W F H zs Q := fun p vs hp r => by
  have hF := fresh_F hs hp
  refine h (.ref p) (upd F p (.lst vs)) _ (sameUpd hF) (sameUpd2 hs) (sameUpd hp) (fun b hb => by rw [upd_ne (fun e => hb (by rw [e]; exact hp))]) ?_
  simp only [Rep]
  exact ⟨p, vs, rfl, upd_same, r.mono (sameUpd hF)⟩
theorem PureK.tup {zs : List D} {Q : VK} (h : PureK W F H (.tup zs) Q) (hs : Same F H) {p : Addr} {vs : List V} (hp : H p = none) (r : RepL W F zs vs) : Q (.ref p) (upd H p (.tup vs)) := by
  have hF := fresh_F hs hp
  refine h (.ref p) (upd F p (.tup vs)) _ (sameUpd hF) (sameUpd2 hs) (sameUpd hp) (fun b hb => by rw [upd_ne (fun e => hb (by rw [e]; exact hp))]) ?_
  simp only [Rep]
  exact ⟨p, vs, rfl, SqT.of upd_same, r.mono (sameUpd hF)⟩
theorem Rl.pureK {z : D} {e : Env3} {Q : VK} (l : Rl W io g F mk e rt σ H) (h : ∀ v H', ResK W io g F mk .fr z e σ v H' → Q v H') : PureK W F H z Q := fun v F' H' h1 h2 h3 h4 r =>
  h v H' (.fr1 h1 (l.ext h1 h2 h3 h4) r)
theorem Rl.newK {zs : List D} {e : Env3} {Q : VK} (l : Rl W io g F mk e rt σ H) (h : ∀ v H', ResK W io g F mk (.own .fr) (.lst zs) e σ v H' → Q v H') : NewK W F H zs Q := fun p vs hp r => by
  have hF := fresh_F l.fr.sub hp
  have nr : ∀ i, p ∉ rt i := fun i m => by obtain ⟨_, o, b⟩ := l.none m; rw [hp] at b; cases b
  refine h _ _ ⟨F, rt, [p], Same.refl _, l.grow (Same.refl _) (l.fr.fresh hp) fun i q hq => ⟨upd_ne fun e => nr i (e ▸ hq), (l.none hq).1⟩, ?_, by simp, fun q hq => ?_⟩
  · simp only [RepK]
    exact ⟨p, vs, [], rfl, upd_same, hF, (repKs_fr (W := W) (H := upd H p (.lst vs))).mpr ⟨r, rfl⟩, rfl⟩
  · rw [List.mem_singleton.mp hq]
    refine ⟨nr, l.fr.old hp, fun m => ?_⟩
    obtain ⟨o, b⟩ := l.fr.wr p m
    rw [hp] at b; cases b
def mTup (ms : M (List D)) : M D := fun e => (ms e).bind fun ds e1 => .ok (.tup ds) e1
def mLst (ms : M (List D)) : M D := fun e => (ms e).bind fun ds e1 => .ok (.lst ds) e1
def allEx (os : List Op3) : Bool := os.all fun o => match o with | .ex => true | _ => false
theorem ev_tup {es : List Expr} {x1 : Nat} {pos : Pos} {ms : M (List D)} {os : List Op3} (h : AV X io E mk es ms os) (hz : os.length ≤ sizeLine := by decide) (ha : allEx os = true := by rfl) : EV X io E mk (.Tuple es x1 pos) (mTup ms) .fr :=
  (pe_tup h).imp fun σ H Q h => by
    obtain ⟨g, F, e, rt, l, h⟩ := h
    refine ⟨g, F, e, rt, l, ?_⟩
    unfold mTup at h
    cases q : ms e with
    | exc c fs => rw [q] at h; exact h
    | stk => rw [q] at h; exact h
    | ok ds e1 =>
      rw [q] at h
      intro vs F1 rt1 H1 s1 l1 a1
      refine ⟨by rw [a1.len.2]; exact hz, fun p hp => ?_⟩
      exact (l1.pureK (z := .tup ds) fun v H' r => h v H' (r.mono s1)).tup l1.fr.sub hp (atOs_ex a1 ha)
theorem ev_lstO {es : List Expr} {pos : Pos} {ms : M (List D)} {os : List Op3} (h : AV X io E mk es ms os) (hz : os.length ≤ sizeLine := by decide) (ha : allEx os = true := by rfl) : EV X io E mk (.List es pos) (mLst ms) (.own .fr) :=
  (pe_lst h).imp fun σ H Q h => by
    obtain ⟨g, F, e, rt, l, h⟩ := h
    refine ⟨g, F, e, rt, l, ?_⟩
    unfold mLst at h
    cases q : ms e with
    | exc c fs => rw [q] at h; exact h
    | stk => rw [q] at h; exact h
    | ok ds e1 =>
      rw [q] at h
      intro vs F1 rt1 H1 s1 l1 a1
      refine ⟨by rw [a1.len.2]; exact hz, fun p hp => ?_⟩
      exact (l1.newK (zs := ds) fun v H' r => h v H' (r.mono s1)) p vs hp (atOs_ex a1 ha)

/-! ### built-in functions by values -/
def RepTs (W : Kx) (F H : Hp) : List D → List V → Prop
  | [], vs => vs = []
  | d :: ds, vs => ∃ v w, vs = v :: w ∧ RepT W F H d v ∧ RepTs W F H ds w
def PureFn (W : Kx) (r : List V → Hp → VK → Prop) (f : List D → Option D) : Prop :=
  ∀ (F H : Hp) (ds : List D) (z : D) (vs : List V) (Q : VK), Same F H → RepTs W F H ds vs → f ds = some z → PureK W F H z Q → r vs H Q
def NewFn (W : Kx) (r : List V → Hp → VK → Prop) (f : List D → Option (List D)) : Prop :=
  ∀ (F H : Hp) (ds zs : List D) (vs : List V) (Q : VK), Same F H → RepTs W F H ds vs → f ds = some zs → NewK W F H zs Q → r vs H Q
def opds : List Op3 → List D → Env3 → Option (List D)
  | o :: os, d :: ds, e => (opd o d e).bind fun x => (opds os ds e).bind fun xs => some (x :: xs)
  | _, _, _ => some []
def mFn (os : List Op3) (f : List D → Option D) (ms : M (List D)) : M D := fun e => (ms e).bind fun ds e1 => match opds os ds e1 with
  | some xs => .opt (f xs) e1
  | none => .stk
def mFnN (os : List Op3) (f : List D → Option (List D)) (ms : M (List D)) : M D := fun e => (ms e).bind fun ds e1 => match opds os ds e1 with
  | some xs => .opt ((f xs).map .lst) e1
  | none => .stk
def opssOk (mk : List Kd) (os : List Op3) : Bool := os.all (opsOk mk)
theorem AtOs.use : ∀ {os : List Op3} {ds xs : List D} {vs : List V} {e : Env3}, opssOk mk os = true → AtOs W F σ os ds vs → Rl W io g F mk e rt σ H → opds os ds e = some xs → RepTs W F H xs vs
  | [], _, _, _, _, _, ⟨e1, e2⟩, _, h => by subst e1 e2; simp [opds] at h; subst h; exact rfl
  | o :: os, _, xs, _, e, hk, ⟨d, r, v, w, e1, e2, a, b⟩, l, h => by
    subst e1 e2
    unfold opssOk at hk
    rw [List.all_cons, Bool.and_eq_true] at hk
    simp only [opds] at h
    cases q : opd o d e with
    | none => rw [q] at h; cases h
    | some x =>
      rw [q] at h
      simp only [Option.bind_some] at h
      cases q2 : opds os r e with
      | none => rw [q2] at h; cases h
      | some ys =>
        rw [q2] at h
        simp only [Option.bind_some, Option.some.injEq] at h
        subst h
        exact ⟨v, w, rfl, ResO.use (opsOk.h hk.1) a (Same.refl _) l q, AtOs.use hk.2 b l q2⟩
theorem tCB_of {ms : M (List D)} {os : List Op3} {f : List D → Option D} {r : List V → Hp → VK → Prop} (hp : PureFn W r f) (hk : opssOk mk os = true) (Q : VK) (h : tE W io E mk (mFn os f ms) .fr σ H Q) : tCB r (tAs W io E mk ms os) σ H Q := by
  obtain ⟨g, F, e, rt, l, h⟩ := h
  refine ⟨g, F, e, rt, l, ?_⟩
  unfold mFn at h
  cases q : ms e with
  | exc c fs => rw [q] at h; exact h
  | stk => rw [q] at h; exact h
  | ok ds e1 =>
    rw [q] at h
    intro vs F1 rt1 H1 s1 l1 a1
    simp only [R.bind_ok] at h
    cases q2 : opds os ds e1 with
    | none => rw [q2] at h; exact h.elim
    | some xs =>
      rw [q2] at h
      cases q3 : f xs with
      | none => simp only [q3] at h; exact h.elim
      | some z =>
        simp only [q3] at h
        exact hp F1 H1 xs z vs Q l1.fr.sub (AtOs.use hk a1 l1 q2) q3 (l1.pureK fun v H' r => h v H' (r.mono s1))
theorem tCBN_of {ms : M (List D)} {os : List Op3} {f : List D → Option (List D)} {r : List V → Hp → VK → Prop} (hp : NewFn W r f) (hk : opssOk mk os = true) (Q : VK) (h : tE W io E mk (mFnN os f ms) (.own .fr) σ H Q) : tCB r (tAs W io E mk ms os) σ H Q := by
  obtain ⟨g, F, e, rt, l, h⟩ := h
  refine ⟨g, F, e, rt, l, ?_⟩
  unfold mFnN at h
  cases q : ms e with
  | exc c fs => rw [q] at h; exact h
  | stk => rw [q] at h; exact h
  | ok ds e1 =>
    rw [q] at h
    intro vs F1 rt1 H1 s1 l1 a1
    simp only [R.bind_ok] at h
    cases q2 : opds os ds e1 with
    | none => rw [q2] at h; exact h.elim
    | some xs =>
      rw [q2] at h
      cases q3 : f xs with
      | none => simp only [q3] at h; exact h.elim
      | some z =>
        simp only [q3] at h
        exact hp F1 H1 xs z vs Q l1.fr.sub (AtOs.use hk a1 l1 q2) q3 (l1.newK fun v H' r => h v H' (r.mono s1))
variable {x : Str} {p pos : Pos} {e0 : Expr} {es : List Expr} {id T : String} {r : List V → Hp → VK → Prop} {ms : M (List D)} {os : List Op3}
theorem ev_fn {f : List D → Option D} (hc : CallR X (.builtin id) r) (hp : PureFn (kx X) r f) (hg : Gl X x) (hm : X.mg x = none) (hv : bootBuiltins x = some (.builtin id)) (ha : AV X io E mk (e0 :: es) ms os) (hk : opssOk mk os = true := by rfl) (hn : x ≠ "__name__" := by decide) (hdb : (x == ("__debug__" : Str)) = false := by decide)
    (he : starEach (e0 :: es) X.env = (false, eval e0 X.env) :: starEach es X.env := by rfl) (hpl : (backTo pos (starEach es X.env)).any (·.1) = false := by rfl) : EV X io E mk (.Call (.Name x p) (e0 :: es) [] pos) (mFn os f ms) .fr :=
  (pe_callB hc hg hm hv ha hn hdb he hpl).imp fun σ H Q h => tCB_of hp hk Q h
theorem ev_ty {f : List D → Option D} (hc : CallR X (.type T) r) (hp : PureFn (kx X) r f) (hg : Gl X x) (hm : X.mg x = none) (hv : bootBuiltins x = some (.type T)) (ha : AV X io E mk (e0 :: es) ms os) (hk : opssOk mk os = true := by rfl) (hn : x ≠ "__name__" := by decide) (hdb : (x == ("__debug__" : Str)) = false := by decide)
    (he : starEach (e0 :: es) X.env = (false, eval e0 X.env) :: starEach es X.env := by rfl) (hpl : (backTo pos (starEach es X.env)).any (·.1) = false := by rfl) : EV X io E mk (.Call (.Name x p) (e0 :: es) [] pos) (mFn os f ms) .fr :=
  (pe_callTy hc hg hm hv ha hn hdb he hpl).imp fun σ H Q h => tCB_of hp hk Q h
theorem ev_fnN {f : List D → Option (List D)} (hc : CallR X (.builtin id) r) (hp : NewFn (kx X) r f) (hg : Gl X x) (hm : X.mg x = none) (hv : bootBuiltins x = some (.builtin id)) (ha : AV X io E mk (e0 :: es) ms os) (hk : opssOk mk os = true := by rfl) (hn : x ≠ "__name__" := by decide) (hdb : (x == ("__debug__" : Str)) = false := by decide)
    (he : starEach (e0 :: es) X.env = (false, eval e0 X.env) :: starEach es X.env := by rfl) (hpl : (backTo pos (starEach es X.env)).any (·.1) = false := by rfl) : EV X io E mk (.Call (.Name x p) (e0 :: es) [] pos) (mFnN os f ms) (.own .fr) :=
  (pe_callB hc hg hm hv ha hn hdb he hpl).imp fun σ H Q h => tCBN_of hp hk Q h
theorem ev_tyN {f : List D → Option (List D)} (hc : CallR X (.type T) r) (hp : NewFn (kx X) r f) (hg : Gl X x) (hm : X.mg x = none) (hv : bootBuiltins x = some (.type T)) (ha : AV X io E mk (e0 :: es) ms os) (hk : opssOk mk os = true := by rfl) (hn : x ≠ "__name__" := by decide) (hdb : (x == ("__debug__" : Str)) = false := by decide)
    (he : starEach (e0 :: es) X.env = (false, eval e0 X.env) :: starEach es X.env := by rfl) (hpl : (backTo pos (starEach es X.env)).any (·.1) = false := by rfl) : EV X io E mk (.Call (.Name x p) (e0 :: es) [] pos) (mFnN os f ms) (.own .fr) :=
  (pe_callTy hc hg hm hv ha hn hdb he hpl).imp fun σ H Q h => tCBN_of hp hk Q h
end
end L3

namespace L3
open PySem PySem.Spec L2
open PyProof.Rows hiding St

/-! # L3E: statements -/
inductive O3 where
  | nx (e : Env3) | rt (d : D) (e : Env3) | bk (e : Env3) | ct (e : Env3) | exc (c : Str) (fs : List (Str × D)) | stk
abbrev M3 := Env3 → O3
def R.st {α : Type} (r : R α) (f : α → Env3 → O3) : O3 := match r with
  | .ok a e => f a e
  | .exc c fs => .exc c fs
  | .stk => .stk
@[simp] theorem R.st_ok {α : Type} (a : α) (e : Env3) (f : α → Env3 → O3) : (R.ok a e).st f = f a e := rfl
@[simp] theorem R.st_exc {α : Type} (c : Str) (fs : List (Str × D)) (f : α → Env3 → O3) : (R.exc c fs).st f = .exc c fs := rfl
@[simp] theorem R.st_stk {α : Type} (f : α → Env3 → O3) : (R.stk : R α).st f = .stk := rfl
/-- a value that leaves: fresh, or an own slot's (not handed in) -/
inductive ResR (W : Kx) (io : List Nat) (g : Gh) (F : Hp) (mk : List Kd) (k : Kd) (d : D) (e : Env3) (σ : St) (v : V) (H : Hp) : Prop where
  | res (r : ResK W io g F mk k d e σ v H)
  | mv (hk : k = .fr) (F' : Hp) (rt : Nat → List Addr) (i : Nat) (hi : i ∉ io ∧ (mk.getD i .fr).frz = true) (hs : Same F F') (l : Rl W io g F' mk e rt σ H) (r : RepK W F' H (mk.getD i .fr) d v (rt i))
  /-- .. as it is owned -/
  | mvo (F' : Hp) (rt : Nat → List Addr) (i : Nat) (hi : i ∉ io) (hs : Same F F') (l : Rl W io g F' mk e rt σ H) (r : RepK W F' H k d v (rt i))
theorem ResR.mono {W : Kx} {io : List Nat} {g : Gh} {F F' : Hp} {mk : List Kd} {k : Kd} {d : D} {e : Env3} {σ : St} {v : V} {H : Hp} (hs : Same F F') (h : ResR W io g F' mk k d e σ v H) : ResR W io g F mk k d e σ v H := by
  cases h with
  | res r => exact .res (r.mono hs)
  | mv hk G rt i hi h1 l r => exact .mv hk G rt i hi (hs.trans h1) l r
  | mvo G rt i hi h1 l r => exact .mvo G rt i hi (hs.trans h1) l r
/-- an outcome, read -/
def Out (W : Kx) (io : List Nat) (g : Gh) (E : WX) (mk : List Kd) (kr : Kd) (D : Ends) (F : Hp) (n : Nat) (o : O3) : Prop := match o with
  | .nx e' => ∀ σ' F' rt' H', σ'.length = n → Same F F' → Rl W io g F' mk e' rt' σ' H' → D.nx σ' H'
  | .bk e' => ∀ σ' F' rt' H', σ'.length = n → Same F F' → Rl W io g F' mk e' rt' σ' H' → D.bk σ' H'
  | .ct e' => ∀ σ' F' rt' H', σ'.length = n → Same F F' → Rl W io g F' mk e' rt' σ' H' → D.ct σ' H'
  | .rt d e' => ∀ v σ' H', σ'.length = n → ResR W io g F mk kr d e' σ' v H' → D.rt v H'
  | .exc c fs => ∀ σ, σ.length = n → Exq W g F E c fs σ
  | .stk => False
def tS (W : Kx) (io : List Nat) (E : WX) (mk : List Kd) (kr : Kd) (m : M3) : TS := fun D σ H =>
  ∃ g F e rt, Rl W io g F mk e rt σ H ∧ Out W io g E mk kr D F σ.length (m e)
def SV (X : Cx) (io : List Nat) (E : WX) (mk : List Kd) (kr : Kd) (st : Stmt) (m : M3) : Prop := PS X st (tS (kx X) io E mk kr m)
def BV (X : Cx) (io : List Nat) (E : WX) (mk : List Kd) (kr : Kd) (st : List Stmt) (m : M3) : Prop := PSs X st (tS (kx X) io E mk kr m)
theorem _root_.L2.PS.imp {X : Cx} {st : Stmt} {t t' : TS} (h : PS X st t) (w : ∀ D σ H, t' D σ H → t D σ H) : PS X st t' := ⟨fun pins s σ H D I q => h.run pins s σ H D I (w D σ H q)⟩
theorem _root_.L2.PSs.imp {X : Cx} {st : List Stmt} {t t' : TS} (h : PSs X st t) (w : ∀ D σ H, t' D σ H → t D σ H) : PSs X st t' := ⟨fun pins s σ H D I q => h.run pins s σ H D I (w D σ H q)⟩
section
variable {X : Cx} {io : List Nat} {E : WX} {mk : List Kd} {kr : Kd} {W : Kx} {g : Gh} {F F' H H' : Hp} {rt : Nat → List Addr} {σ : St} {D D' : Ends} {n : Nat}

theorem Out.mono {o : O3} (hs : Same F F') (h : Out W io g E mk kr D F n o) : Out W io g E mk kr D F' n o := by
  cases o with
  | nx e' => exact fun σ' F2 rt' H' hl h2 l => h σ' F2 rt' H' hl (hs.trans h2) l
  | bk e' => exact fun σ' F2 rt' H' hl h2 l => h σ' F2 rt' H' hl (hs.trans h2) l
  | ct e' => exact fun σ' F2 rt' H' hl h2 l => h σ' F2 rt' H' hl (hs.trans h2) l
  | rt d e' => exact fun v σ' H' hl r => h v σ' H' hl (r.mono hs)
  | exc c fs => exact fun σ hl => Exq.mono hs (h σ hl)
  | stk => exact h

/-! ### blocks -/
def sSkip : M3 := fun e => .nx e
def sSeq (a b : M3) : M3 := fun e => match a e with
  | .nx e1 => b e1
  | o => o
theorem bv_nil : BV X io E mk kr [] sSkip := pss_nil.imp fun D σ H h => by
  obtain ⟨g, F, e, rt, l, h⟩ := h
  exact h σ F rt H rfl (Same.refl _) l
theorem bv_cons {st : Stmt} {rest : List Stmt} {a b : M3} (h1 : SV X io E mk kr st a) (h2 : BV X io E mk kr rest b) : BV X io E mk kr (st :: rest) (sSeq a b) := (pss_cons h1 h2).imp fun D σ H h => by
  obtain ⟨g, F, e, rt, l, h⟩ := h
  refine ⟨g, F, e, rt, l, ?_⟩
  unfold sSeq at h
  cases q : a e with
  | nx e1 =>
    rw [q] at h
    intro σ' F' rt' H' hl hs l'
    refine ⟨g, F', e1, rt', l', ?_⟩
    rw [hl]
    exact h.mono hs
  | bk e1 => rw [q] at h; exact h
  | ct e1 => rw [q] at h; exact h
  | rt d e1 => rw [q] at h; exact h
  | exc c fs => rw [q] at h; exact h
  | stk => rw [q] at h; exact h
theorem bv_one {st : Stmt} {a : M3} (h1 : SV X io E mk kr st a) : BV X io E mk kr [st] a := pss_one h1
theorem sv_pass {pos : Pos} : SV X io E mk kr (.Pass pos) sSkip := ps_pass.imp fun D σ H h => by
  obtain ⟨g, F, e, rt, l, h⟩ := h
  exact h σ F rt H rfl (Same.refl _) l
theorem sv_doc {x j pos pos'} : SV X io E mk kr (.Expr (.Constant (.str x) j pos) pos') sSkip := ps_doc.imp fun D σ H h => by
  obtain ⟨g, F, e, rt, l, h⟩ := h
  exact h σ F rt H rfl (Same.refl _) l
def sBk : M3 := fun e => .bk e
def sCt : M3 := fun e => .ct e
theorem sv_break {pos : Pos} : SV X io E mk kr (.Break pos) sBk := ps_break.imp fun D σ H h => by
  obtain ⟨g, F, e, rt, l, h⟩ := h
  exact h σ F rt H rfl (Same.refl _) l
theorem sv_continue {pos : Pos} : SV X io E mk kr (.Continue pos) sCt := ps_continue.imp fun D σ H h => by
  obtain ⟨g, F, e, rt, l, h⟩ := h
  exact h σ F rt H rfl (Same.refl _) l
def sStk : M3 := fun _ => .stk
theorem sv_never {st : Stmt} : SV X io E mk kr st sStk := (ps_never (X := X)).imp fun D σ H h => by
  obtain ⟨g, F, e, rt, l, h⟩ := h
  exact h.elim
def sExpr (m : M L3.D) : M3 := fun e => (m e).st fun _ e1 => .nx e1
theorem sv_expr {x : Expr} {m : M L3.D} {pos : Pos} (h : EV X io E mk x m .fr) (hs : swapsWith x none pos.line X.env = pure false := by rfl) : SV X io E mk kr (.Expr x pos) (sExpr m) := (ps_expr h hs).imp fun D σ H h => by
  obtain ⟨g, F, e, rt, l, h⟩ := h
  refine ⟨g, F, e, rt, l, ?_⟩
  unfold sExpr at h
  cases q : m e with
  | exc c fs => rw [q] at h; exact h σ rfl
  | stk => rw [q] at h; exact h
  | ok d e1 =>
    rw [q] at h
    intro v H' r
    obtain ⟨F1, rt1, rs, h1, l1, k, n, o⟩ := r.ex
    exact h σ F1 rt1 H' rfl h1 l1
def sRet (m : M L3.D) : M3 := fun e => (m e).st fun d e1 => .rt d e1
theorem sv_ret {x : Expr} {m : M L3.D} {pos : Pos} (h : EV X io E mk x m kr) : SV X io E mk kr (.Return (some x) pos) (sRet m) := (ps_ret h).imp fun D σ H h => by
  obtain ⟨g, F, e, rt, l, h⟩ := h
  refine ⟨g, F, e, rt, l, ?_⟩
  unfold sRet at h
  cases q : m e with
  | exc c fs => rw [q] at h; exact h σ rfl
  | stk => rw [q] at h; exact h
  | ok d e1 => rw [q] at h; exact fun v H' r => h v σ H' rfl (.res r)
/-- nothing that is owned, at any kind -/
theorem RepK.flat_of {k : Kd} {d : L3.D} {v : V} (hd : (match d with | .lst _ => false | .dic _ _ => false | .ins _ _ _ => false | _ => true) = true) (r : Rep W F d v) : RepK W F H k d v [] := by
  cases k with
  | fr => exact ⟨r, rfl⟩
  | own k => cases d <;> first | exact ⟨r, rfl⟩ | (cases hd)
  | obj => cases d <;> first | exact .inr ⟨rfl, r, rfl⟩ | (cases hd)
  | dct t => cases d <;> first | exact .inr ⟨rfl, r, rfl⟩ | (cases hd)
def sRetN : M3 := fun e => .rt .non e
theorem sv_retN {pos : Pos} : SV X io E mk kr (.Return none pos) sRetN := ps_retN.imp fun D σ H h => by
  obtain ⟨g, F, e, rt, l, h⟩ := h
  exact h .non σ H rfl (.res ⟨F, rt, [], Same.refl _, l, RepK.flat_of rfl Rep.non, .nil, fun p hp => by cases hp⟩)
/-- an own slot's value returned -/
theorem sv_ret_mv (i : Nat) {x : Str} {np pos : Pos} (h0 : kr = .fr := by rfl) (hi : i ∉ io := by decide) (hz : (mk.getD i .fr).frz = true := by rfl) (hN : X.N[i]? = some x := by rfl) (hv : Vis X.env.scope x := by first | exact Or.inl rfl | exact Or.inr (Or.inl rfl) | exact Or.inr (Or.inr rfl)) (hd : (x == ("__debug__" : Str)) = false := by decide)
    (hcd : (x == ("__classdict__" : Str)) = false := by decide) : SV X io E mk kr (.Return (some (.Name x np)) pos) (sRet (mVar i)) := (ps_ret (pe_var hN hv hd hcd)).imp fun D σ H h => by
  obtain ⟨g, F, e, rt, l, h⟩ := h
  unfold sRet mVar at h
  cases h1 : e[i]? with
  | none => simp only [h1] at h; exact h.elim
  | some o =>
    cases o with
    | none => simp only [h1] at h; exact h.elim
    | some d =>
      simp only [h1] at h
      obtain ⟨v, hv, k⟩ := l.var i d h1
      exact ⟨v, hv, h v σ H rfl (.mv h0 F rt i ⟨hi, hz⟩ (Same.refl _) l k)⟩
/-- an own slot's value returned as it is owned -/
theorem sv_ret_mvO (i : Nat) {x : Str} {np pos : Pos} (h0 : kr = mk.getD i .fr := by rfl) (hi : i ∉ io := by decide) (hN : X.N[i]? = some x := by rfl) (hv : Vis X.env.scope x := by first | exact Or.inl rfl | exact Or.inr (Or.inl rfl) | exact Or.inr (Or.inr rfl)) (hd : (x == ("__debug__" : Str)) = false := by decide)
    (hcd : (x == ("__classdict__" : Str)) = false := by decide) : SV X io E mk kr (.Return (some (.Name x np)) pos) (sRet (mVar i)) := (ps_ret (pe_var hN hv hd hcd)).imp fun D σ H h => by
  obtain ⟨g, F, e, rt, l, h⟩ := h
  unfold sRet mVar at h
  cases h1 : e[i]? with
  | none => simp only [h1] at h; exact h.elim
  | some o =>
    cases o with
    | none => simp only [h1] at h; exact h.elim
    | some d =>
      simp only [h1] at h
      obtain ⟨v, hv, k⟩ := l.var i d h1
      exact ⟨v, hv, h v σ H rfl (.mvo F rt i hi (Same.refl _) l (h0 ▸ k))⟩
/-- a flat value returned where a list may be -/
def mFlat (m : M L3.D) : M L3.D := fun e => (m e).bind fun d e1 => match d with
  | .lst _ => .stk
  | .dic _ _ => .stk
  | .ins _ _ _ => .stk
  | d => .ok d e1
theorem EV.flat {x : Expr} {m : M L3.D} {k : Kd} (h : EV X io E mk x m .fr) : EV X io E mk x (mFlat m) k := by
  refine L2.PE.imp h ?_
  rintro σ H Q ⟨g, F, e, rt, l, h⟩
  refine ⟨g, F, e, rt, l, ?_⟩
  unfold mFlat at h
  cases q : m e with
  | exc c fs => rw [q] at h; exact h
  | stk => rw [q] at h; exact h
  | ok d e1 =>
    rw [q] at h
    intro v H' r
    obtain ⟨F1, rt1, rs, h1, l1, k, n, o⟩ := r.ex
    simp only [R.bind_ok] at h
    cases d with
    | lst _ => exact h.elim
    | dic _ _ => exact h.elim
    | ins _ _ _ => exact h.elim
    | _ => exact h v H' ⟨F1, rt1, [], h1, l1, RepK.flat_of rfl k.1, .nil, fun p hp => by cases hp⟩

/-! ### slots stored -/
theorem Rl.set {e : Env3} {i : Nat} {d : L3.D} {v : V} {rs : List Addr} (l : Rl W io g F mk e rt σ H) (hi : i ∉ io) (k : RepK W F H (mk.getD i .fr) d v rs) (nd : rs.Nodup) (o : ∀ p, p ∈ rs → (∀ j, p ∉ rt j) ∧ g.H0 p = Option.none ∧ p ∉ g.Wr) :
    ∃ rt', Rl W io g F mk (e.set i (some d)) rt' (σ.set i (some v)) H := by
  by_cases hl : i < e.length
  · refine ⟨fun j => if j = i then rs else rt j, l.fr, by simpa using l.len, fun j d' h => ?_, fun j h => ?_, fun j => ?_, fun j j' p hne h1 h2 => ?_, fun j p h => ?_, fun j hj => ?_⟩
    · by_cases hj : j = i
      · subst hj
        rw [List.getElem?_set_self hl] at h
        cases h
        refine ⟨v, List.getElem?_set_self (Nat.lt_of_lt_of_le hl l.len), ?_⟩
        rw [if_pos rfl]
        exact k
      · rw [List.getElem?_set_ne (Ne.symm hj)] at h
        obtain ⟨v', e1, k'⟩ := l.var j d' h
        refine ⟨v', by rw [List.getElem?_set_ne (Ne.symm hj)]; exact e1, ?_⟩
        rw [if_neg hj]
        exact k'
    · by_cases hj : j = i
      · subst hj
        exact absurd (List.getElem?_set_self hl) (h d)
      · rw [if_neg hj]
        refine l.emp j fun d' q => h d' ?_
        rw [List.getElem?_set_ne (Ne.symm hj)]
        exact q
    · split
      · exact nd
      · exact l.nd j
    · split at h1
      · split at h2
        · rename_i a b; exact hne (a.trans b.symm)
        · exact (o p h1).1 j' h2
      · split at h2
        · exact (o p h2).1 j h1
        · exact l.dj j j' p hne h1 h2
    · split at h
      · exact .inl (o p h).2.1
      · exact l.own j p h
    · rw [List.getElem?_set_ne (fun q : i = j => hi (by rw [q]; exact hj))]
      exact l.pin j hj
  · have e1 : e.set i (some d) = e := List.set_eq_of_length_le (Nat.le_of_not_lt hl)
    rw [e1]
    refine ⟨rt, l.fr, by simpa using l.len, fun j d' h => ?_, l.emp, l.nd, l.dj, l.own, fun j hj => ?_⟩
    · have hj : j ≠ i := fun q => by
        subst q
        rw [List.getElem?_eq_none (Nat.le_of_not_lt hl)] at h
        cases h
      obtain ⟨v', e2, k'⟩ := l.var j d' h
      exact ⟨v', by rw [List.getElem?_set_ne (Ne.symm hj)]; exact e2, k'⟩
    · rw [List.getElem?_set_ne (fun q : i = j => hi (by rw [q]; exact hj))]
      exact l.pin j hj
def sSet (i : Nat) (m : M L3.D) : M3 := fun e => (m e).st fun d e1 => .nx (e1.set i (some d))
theorem sSet_of {i : Nat} {m : M L3.D} (hi : i ∉ io) (h : tS W io E mk kr (sSet i m) D σ H) : tAsg (tE W io E mk m (mk.getD i .fr)) (gName i) D σ H := by
  obtain ⟨g, F, e, rt, l, h⟩ := h
  refine ⟨g, F, e, rt, l, ?_⟩
  unfold sSet at h
  cases q : m e with
  | exc c fs => rw [q] at h; exact h σ rfl
  | stk => rw [q] at h; exact h
  | ok d e1 =>
    rw [q] at h
    intro v H' r
    obtain ⟨F1, rt1, rs, h1, l1, k, n, o⟩ := r.ex
    obtain ⟨rt2, l2⟩ := l1.set hi k n o
    exact h (σ.set i (some v)) F1 rt2 H' (by simp) h1 l2
theorem sv_set (i : Nat) {x : Str} {e : Expr} {m : M L3.D} {pos pos' : Pos} {k : Kd} (he : EV X io E mk e m k) (hk : mk.getD i .fr = k := by rfl) (hi : i ∉ io := by decide) (hN : X.N.Nodup := by assumption) (hx : X.N[i]? = some x := by rfl) (hl : Loc X.env.scope x := by first | exact Or.inl rfl | exact Or.inr rfl)
    (hs : swapsWith e (some (.Name x pos')) pos.line X.env = pure false := by rfl) (hf : X.fn x = true ∨ X.env.scope.names.lookup x = some .local := by first | exact .inl rfl | exact .inr rfl) : SV X io E mk kr (.Assign [.Name x pos'] e pos) (sSet i m) := by
  subst hk
  exact (ps_set hN hx hl he hs hf).imp fun D σ H h => sSet_of hi h
def sIf (t : M Bool) (a b : M3) : M3 := fun e => (t e).st fun c e1 => if c = true then a e1 else b e1
theorem sv_if {c : Expr} {a b : List Stmt} {pos : Pos} {t : M Bool} {ma mb : M3} (hc : TV X io E mk c t) (ha : BV X io E mk kr a ma) (hb : BV X io E mk kr b mb) : SV X io E mk kr (.If c a b pos) (sIf t ma mb) := (ps_if hc ha hb).imp fun D σ H h => by
  obtain ⟨g, F, e, rt, l, h⟩ := h
  refine ⟨g, F, e, rt, l, ?_⟩
  unfold sIf at h
  cases q : t e with
  | exc c fs => rw [q] at h; exact h σ rfl
  | stk => rw [q] at h; exact h
  | ok c e1 =>
    rw [q] at h
    intro F1 rt1 H1 s1 l1
    cases c with
    | true =>
      simp only [R.st_ok, if_true] at h ⊢
      exact ⟨g, F1, e1, rt1, l1, h.mono s1⟩
    | false =>
      simp only [R.st_ok, Bool.false_eq_true, if_false] at h ⊢
      exact ⟨g, F1, e1, rt1, l1, h.mono s1⟩

/-! ### targets -/
def tG (W : Kx) (io : List Nat) (mk : List Kd) (ts : List Nat) (gf : L3.D → Env3 → Option Env3) : TG := fun v σ H Q =>
  ∃ g F e rt d, Rl W io g F mk e rt σ H ∧ Rep W F d v ∧ match gf d e with
    | some e' => ∀ σ' F' rt' H', σ'.length = σ.length → (∀ j, j ∉ ts → σ'[j]? = σ[j]?) → Same F F' → Rl W io g F' mk e' rt' σ' H' → Q σ' H'
    | none => False
/-- a target of several names, at a tuple's place -/
def tGt (W : Kx) (io : List Nat) (mk : List Kd) (ts : List Nat) (gf : List L3.D → Env3 → Option Env3) : TG := fun v σ H Q =>
  ∃ g F e rt ds, Rl W io g F mk e rt σ H ∧ (∃ a vs, v = .ref a ∧ SqT W.K H a vs ∧ RepL W F ds vs) ∧ match gf ds e with
    | some e' => ∀ σ' F' rt' H', σ'.length = σ.length → (∀ j, j ∉ ts → σ'[j]? = σ[j]?) → Same F F' → Rl W io g F' mk e' rt' σ' H' → Q σ' H'
    | none => False
def tGs (W : Kx) (io : List Nat) (mk : List Kd) (ts : List Nat) (gf : List L3.D → Env3 → Option Env3) : TGs := fun vs σ H Q =>
  ∃ g F e rt ds, Rl W io g F mk e rt σ H ∧ RepL W F ds vs ∧ match gf ds e with
    | some e' => ∀ σ' F' rt' H', σ'.length = σ.length → (∀ j, j ∉ ts → σ'[j]? = σ[j]?) → Same F F' → Rl W io g F' mk e' rt' σ' H' → Q σ' H'
    | none => False
def GV (X : Cx) (io : List Nat) (mk : List Kd) (tg : Expr) (ts : List Nat) (gf : L3.D → Env3 → Option Env3) : Prop := PG X tg (tG (kx X) io mk ts gf)
def GT (X : Cx) (io : List Nat) (mk : List Kd) (tg : Expr) (ts : List Nat) (gf : List L3.D → Env3 → Option Env3) : Prop := PG X tg (tGt (kx X) io mk ts gf)
def GS (X : Cx) (io : List Nat) (mk : List Kd) (tg : List Expr) (ts : List Nat) (gf : List L3.D → Env3 → Option Env3) : Prop := PGs X tg (tGs (kx X) io mk ts gf)
theorem _root_.L2.PG.imp {X : Cx} {tg : Expr} {t t' : TG} (h : PG X tg t) (w : ∀ v σ H Q, t' v σ H Q → t v σ H Q) : PG X tg t' := ⟨fun pins s σ H v u Q I r q => h.run pins s σ H v u Q I r (w v σ H Q q)⟩
theorem _root_.L2.PGs.imp {X : Cx} {tg : List Expr} {t t' : TGs} (h : PGs X tg t) (w : ∀ v σ H Q, t' v σ H Q → t v σ H Q) : PGs X tg t' := ⟨fun pins s σ H v u Q I r q => h.run pins s σ H v u Q I r (w v σ H Q q)⟩
def gfN (i : Nat) : L3.D → Env3 → Option Env3 := fun d e => some (e.set i (some d))
def gfNil : List L3.D → Env3 → Option Env3 := fun ds e => match ds with
  | [] => some e
  | _ => none
def gfCons (a : L3.D → Env3 → Option Env3) (b : List L3.D → Env3 → Option Env3) : List L3.D → Env3 → Option Env3 := fun ds e => match ds with
  | d :: r => (a d e).bind (b r)
  | [] => none
def gfT (a : List L3.D → Env3 → Option Env3) : L3.D → Env3 → Option Env3 := fun d e => match d with
  | .tup ds => a ds e
  | _ => none
theorem gv_name (i : Nat) {x : Str} {pos : Pos} (hk : mk.getD i .fr = .fr := by rfl) (hi : i ∉ io := by decide) (hN : X.N.Nodup := by assumption) (hx : X.N[i]? = some x := by rfl) (hl : Loc X.env.scope x := by first | exact Or.inl rfl | exact Or.inr rfl)
    (hf : X.fn x = true ∨ X.env.scope.names.lookup x = some .local := by first | exact .inl rfl | exact .inr rfl) : GV X io mk (.Name x pos) [i] (gfN i) := (pg_name hN hx hl hf).imp fun v σ H Q h => by
  obtain ⟨g, F, e, rt, d, l, r, h⟩ := h
  obtain ⟨rt2, l2⟩ := l.set (i := i) (d := d) (v := v) (rs := []) hi (by rw [hk]; exact ⟨r, rfl⟩) .nil (fun p hp => by cases hp)
  exact h _ F rt2 H (by simp) (fun j hj => List.getElem?_set_ne fun q => hj (by rw [q]; exact List.mem_singleton.mpr rfl)) (Same.refl _) l2
theorem gs_nil : GS X io mk [] [] gfNil := pgs_nil.imp fun vs σ H Q h => by
  obtain ⟨g, F, e, rt, ds, l, r, h⟩ := h
  cases ds with
  | nil =>
    rw [repL_nil] at r
    exact ⟨r, h σ F rt H rfl (fun _ _ => rfl) (Same.refl _) l⟩
  | cons _ _ => exact h.elim
theorem gs_cons {x : Expr} {xs : List Expr} {a : L3.D → Env3 → Option Env3} {b : List L3.D → Env3 → Option Env3} {t1 t2 : List Nat} (h1 : GV X io mk x t1 a) (h2 : GS X io mk xs t2 b)
    (hs : (assignEach (x :: xs) X.env).map (·.2) = assign x X.env :: (assignEach xs X.env).map (·.2) := by rfl) : GS X io mk (x :: xs) (t1 ++ t2) (gfCons a b) := (pgs_cons h1 h2 hs).imp fun vs σ H Q h => by
  obtain ⟨g, F, e, rt, ds, l, r, h⟩ := h
  cases ds with
  | nil => exact h.elim
  | cons d ds =>
    simp only [RepL] at r
    obtain ⟨v, w, ev, r1, r2⟩ := r
    subst ev
    refine ⟨v, w, rfl, g, F, e, rt, d, l, r1, ?_⟩
    simp only [gfCons] at h
    cases q : a d e with
    | none => rw [q] at h; exact h.elim
    | some e1 =>
      rw [q] at h
      simp only [Option.bind_some] at h
      intro σ' F' rt' H' hl hj hs' l'
      refine ⟨g, F', e1, rt', ds, l', r2.mono hs', ?_⟩
      cases q2 : b ds e1 with
      | none => rw [q2] at h; exact h.elim
      | some e2 => rw [q2] at h; exact fun σ2 F2 rt2 H2 hl2 hj2 hs2 l2 => h σ2 F2 rt2 H2 (hl2.trans hl) (fun j hn => (hj2 j fun m => hn (List.mem_append_right _ m)).trans (hj j fun m => hn (List.mem_append_left _ m))) (hs'.trans hs2) l2
theorem gt_tup {es : List Expr} {k : Nat} {pos : Pos} {b : List L3.D → Env3 → Option Env3} {ts : List Nat} (n : Nat) (hc : X.calm = true) (h : GS X io mk es ts b) (hl : ∀ ds e e', b ds e = some e' → ds.length = n)
    (hn : (assignEach es X.env).length = n := by rfl) (hst : (assignEach es X.env).findIdx? (·.1) = none := by rfl) : GT X io mk (.Tuple es k pos) ts b := (pg_tup hc h hn hst).imp fun v σ H Q h => by
  obtain ⟨g, F, e, rt, ds, l, ⟨a, vs, ev, q, r⟩, h⟩ := h
  cases q2 : b ds e with
  | none => rw [q2] at h; exact h.elim
  | some e1 =>
    refine ⟨a, vs, ev, q, by rw [← r.length]; exact hl ds e e1 q2, g, F, e, rt, ds, l, r, h⟩
theorem GT.gv {x : Expr} {b : List L3.D → Env3 → Option Env3} {ts : List Nat} (h : GT X io mk x ts b) : GV X io mk x ts (gfT b) := L2.PG.imp h fun v σ H Q h => by
  obtain ⟨g, F, e, rt, d, l, r, h⟩ := h
  cases d with
  | tup ds =>
    simp only [Rep] at r
    obtain ⟨a, vs, ev, q, r⟩ := r
    exact ⟨g, F, e, rt, ds, l, ⟨a, vs, ev, sqT_mono l.fr.sub q, r⟩, h⟩
  | _ => exact h.elim
def sAsg (gf : L3.D → Env3 → Option Env3) (m : M L3.D) : M3 := fun e => (m e).st fun d e1 => match gf d e1 with
  | some e2 => .nx e2
  | none => .stk
theorem sv_asg {tg x : Expr} {pos : Pos} {m : M L3.D} {gf : L3.D → Env3 → Option Env3} {ts : List Nat} (he : EV X io E mk x m .fr) (hg : GV X io mk tg ts gf) (hs : swapsWithSole [tg] x pos.line X.env = pure false := by rfl) (hw : swappedStores [tg] x X.env = pure none := by rfl)
    (h1 : (assignEach [tg] X.env).map (·.2) = [assign tg X.env] := by rfl) : SV X io E mk kr (.Assign [tg] x pos) (sAsg gf m) := (ps_asg he hg hs hw h1).imp fun D σ H h => by
  obtain ⟨g, F, e, rt, l, h⟩ := h
  refine ⟨g, F, e, rt, l, ?_⟩
  unfold sAsg at h
  cases q : m e with
  | exc c fs => rw [q] at h; exact h σ rfl
  | stk => rw [q] at h; exact h
  | ok d e1 =>
    rw [q] at h
    intro v H' r
    obtain ⟨F1, rt1, rs, h1, l1, k, n, o⟩ := r.ex
    refine ⟨g, F1, e1, rt1, d, l1, k.1, ?_⟩
    simp only [R.st_ok] at h
    cases q2 : gf d e1 with
    | none => rw [q2] at h; exact h.elim
    | some e2 => rw [q2] at h; exact fun σ' F' rt' H2 hl _ hs l' => h σ' F' rt' H2 hl (h1.trans hs) l'
/-- a, b = x, y of two local names -/
def sPar (i j : Nat) (ms : M (List L3.D)) : M3 := fun e => (ms e).st fun ds e1 => match ds with
  | [a, b] => .nx ((e1.set i (some a)).set j (some b))
  | _ => .stk
theorem sv_par (i j : Nat) {x y : Str} {a b : Expr} {ms : M (List L3.D)} {os : List Op3} {px py pt pos : Pos} {kt k2 pt2} (hc : X.calm = true) (ha : AV X io E mk [a, b] ms os) (hw : swappedStores [.Tuple [.Name x px, .Name y py] kt pt] (.Tuple [a, b] k2 pt2) X.env = pure (some [x, y]) := by rfl)
    (ho : allEx os = true := by rfl) (hk1 : mk.getD i .fr = .fr := by rfl) (hk2 : mk.getD j .fr = .fr := by rfl) (hi1 : i ∉ io := by decide) (hi2 : j ∉ io := by decide) (hij : i ≠ j := by decide) (hN : X.N.Nodup := by assumption) (hx : X.N[i]? = some x := by rfl) (hy : X.N[j]? = some y := by rfl)
    (lx : X.env.scope.names.lookup x = some .local := by rfl) (ly : X.env.scope.names.lookup y = some .local := by rfl) (hs : swapsWithSole [.Tuple [.Name x px, .Name y py] kt pt] (.Tuple [a, b] k2 pt2) pos.line X.env = pure false := by rfl) :
    SV X io E mk kr (.Assign [.Tuple [.Name x px, .Name y py] kt pt] (.Tuple [a, b] k2 pt2) pos) (sPar i j ms) := (ps_par hc hN hx hy hij lx ly ha hw hs).imp fun D σ H h => by
  obtain ⟨g, F, e, rt, l, h⟩ := h
  refine ⟨g, F, e, rt, l, ?_⟩
  unfold sPar at h
  cases q : ms e with
  | exc c fs => rw [q] at h; exact h σ rfl
  | stk => rw [q] at h; exact h
  | ok ds e1 =>
    rw [q] at h
    intro vs F1 rt1 H1 s1 l1 a1
    have r := atOs_ex a1 ho
    simp only [R.st_ok] at h
    match ds, h, r with
    | [d1, d2], h, r =>
      simp only [RepL] at r
      obtain ⟨v1, w1, e1, r1, v2, w2, e2, r2, e3⟩ := r
      subst e3 e2 e1
      refine ⟨v1, v2, rfl, ?_⟩
      obtain ⟨rt2, l2⟩ := l1.set (i := i) (d := d1) (v := v1) (rs := []) hi1 (by rw [hk1]; exact ⟨r1, rfl⟩) .nil (fun p hp => by cases hp)
      obtain ⟨rt3, l3⟩ := l2.set (i := j) (d := d2) (v := v2) (rs := []) hi2 (by rw [hk2]; exact ⟨r2, rfl⟩) .nil (fun p hp => by cases hp)
      exact h _ F1 rt3 H1 (by simp) s1 l3
    | [], h, _ => exact h.elim
    | [_], h, _ => exact h.elim
    | _ :: _ :: _ :: _, h, _ => exact h.elim
/-- x op= e -/
def sAug (i : Nat) (f : L3.D → L3.D → Option L3.D) (m : M L3.D) : M3 := fun e => match e[i]? with
  | some (some x) => (m e).st fun d e1 => match f x d with
    | some z => .nx (e1.set i (some z))
    | none => .stk
  | _ => .stk
def dAdd : L3.D → L3.D → Option L3.D := fun x y => match x, y with
  | .int i, .int j => some (.int (i + j))
  | _, _ => none
def dSub : L3.D → L3.D → Option L3.D := fun x y => match x, y with
  | .int i, .int j => some (.int (i - j))
  | _, _ => none
theorem sv_aug (i : Nat) {x : Str} {e0 : Expr} {m : M L3.D} {op : Operator} {ti : TIp} {f : L3.D → L3.D → Option L3.D} {pos pos' : Pos} (he : EV X io E mk e0 m .fr) (ho : PIp X op ti) (hp : ∀ F H x y z vx vy Q, Rep (kx X) F x vx → Rep (kx X) F y vy → f x y = some z → (∀ v, Rep (kx X) F z v → Q v H) → ti vx vy H Q)
    (hk : mk.getD i .fr = .fr := by rfl) (hi : i ∉ io := by decide) (hN : X.N.Nodup := by assumption) (hx : X.N[i]? = some x := by rfl) (hl : Loc X.env.scope x := by first | exact Or.inl rfl | exact Or.inr rfl)
    (hf : X.fn x = true ∨ X.env.scope.names.lookup x = some .local := by first | exact .inl rfl | exact .inr rfl) : SV X io E mk kr (.AugAssign (.Name x pos') op e0 pos) (sAug i f m) := (ps_aug hN hx hl he ho hf).imp fun D σ H h => by
  obtain ⟨g, F, e, rt, l, h⟩ := h
  unfold sAug at h
  cases qx : e[i]? with
  | none => rw [qx] at h; exact h.elim
  | some ox =>
    cases ox with
    | none => rw [qx] at h; exact h.elim
    | some x =>
      rw [qx] at h
      obtain ⟨v0, e1, k0⟩ := l.var i x qx
      rw [hk] at k0
      refine ⟨v0, e1, g, F, e, rt, l, ?_⟩
      cases q : m e with
      | exc c fs => simp only [q] at h; exact h σ rfl
      | stk => simp only [q] at h; exact h
      | ok d e2 =>
        simp only [q, R.st_ok] at h
        intro v H' r
        obtain ⟨F1, rt1, rs, h1, l1, k, n, o⟩ := r.ex
        cases qf : f x d with
        | none => rw [qf] at h; exact h.elim
        | some z =>
          rw [qf] at h
          refine hp F1 H' x d z v0 v _ (k0.1.mono h1) k.1 qf fun w rw' => ?_
          obtain ⟨rt2, l2⟩ := l1.set (i := i) (d := z) (v := w) (rs := []) hi (by rw [hk]; exact ⟨rw', rfl⟩) .nil (fun p hp => by cases hp)
          exact h _ F1 rt2 H' (by simp) h1 l2
theorem sv_iadd (i : Nat) {x : Str} {e0 : Expr} {m : M L3.D} {pos pos' : Pos} (he : EV X io E mk e0 m .fr) (hk : mk.getD i .fr = .fr := by rfl) (hi : i ∉ io := by decide) (hN : X.N.Nodup := by assumption) (hx : X.N[i]? = some x := by rfl) (hl : Loc X.env.scope x := by first | exact Or.inl rfl | exact Or.inr rfl)
    (hf : X.fn x = true ∨ X.env.scope.names.lookup x = some .local := by first | exact .inl rfl | exact .inr rfl) : SV X io E mk kr (.AugAssign (.Name x pos') .Add e0 pos) (sAug i dAdd m) :=
  sv_aug i he ip_add (fun F H x y z vx vy Q rx ry hf hq => by
    cases x <;> cases y <;> simp only [dAdd, reduceCtorEq, Option.some.injEq] at hf
    subst hf
    exact ⟨_, _, Rep.of_int rx, Rep.of_int ry, hq _ Rep.int⟩) hk hi hN hx hl hf
theorem sv_isub (i : Nat) {x : Str} {e0 : Expr} {m : M L3.D} {pos pos' : Pos} (he : EV X io E mk e0 m .fr) (hk : mk.getD i .fr = .fr := by rfl) (hi : i ∉ io := by decide) (hN : X.N.Nodup := by assumption) (hx : X.N[i]? = some x := by rfl) (hl : Loc X.env.scope x := by first | exact Or.inl rfl | exact Or.inr rfl)
    (hf : X.fn x = true ∨ X.env.scope.names.lookup x = some .local := by first | exact .inl rfl | exact .inr rfl) : SV X io E mk kr (.AugAssign (.Name x pos') .Sub e0 pos) (sAug i dSub m) :=
  sv_aug i he ip_sub (fun F H x y z vx vy Q rx ry hf hq => by
    cases x <;> cases y <;> simp only [dSub, reduceCtorEq, Option.some.injEq] at hf
    subst hf
    exact ⟨_, _, Rep.of_int rx, Rep.of_int ry, hq _ Rep.int⟩) hk hi hN hx hl hf
end
end L3

namespace L3
open PySem PySem.Spec L2
open PyProof.Rows hiding St

/-! # L3F: what is walked, for, while -/
/-- a slot's own list that is walked stands as it is -/
def SlOk (sl : Option Nat) (ds : List D) (e : Env3) (σ1 σ : St) : Prop := match sl with
  | none => True
  | some i => e[i]? = some (some (.lst ds)) ∧ σ[i]? = σ1[i]?
/-- an item as it is handed out: frozen, or a new tuple of frozen things -/
def Yld (W : Kx) (F H : Hp) (d : D) (x : V) (H' : Hp) : Prop :=
  (H' = H ∧ Rep W F d x) ∨ ∃ T xs es, H T = none ∧ H' = upd H T (.tup xs) ∧ x = .ref T ∧ d = .tup es ∧ RepL W F es xs
structure ItOk (W : Kx) (io : List Nat) (g : Gh) (mk : List Kd) (F1 : Hp) (σ1 : St) (sl : Option Nat) (J : It) (ds : List D) : Prop where
  go : ∀ {g' : Gh} n d F e rt σ H, ds[n]? = some d → Same F1 F → Rl W io g' F mk e rt σ H → SlOk sl ds e σ1 σ → J.go n H ∧ ∀ x H', J.yld n H x H' → Yld W F H d x H'
  stop : ∀ {g' : Gh} F e rt σ H, Same F1 F → Rl W io g' F mk e rt σ H → SlOk sl ds e σ1 σ → J.stop ds.length H
def tI (W : Kx) (io : List Nat) (E : WX) (mk : List Kd) (m : M (List D)) (sl : Option Nat) : TI := fun σ H R =>
  ∃ g F e rt, Rl W io g F mk e rt σ H ∧ match m e with
    | .ok ds e' => ∀ J F' rt' H', Same F F' → Rl W io g F' mk e' rt' σ H' → ItOk W io g mk F' σ sl J ds → R J H'
    | .exc c fs => Exq W g F E c fs σ
    | .stk => False
def IV (X : Cx) (io : List Nat) (E : WX) (mk : List Kd) (tg iter : Expr) (m : M (List D)) (sl : Option Nat) : Prop := PI X tg iter (tI (kx X) io E mk m sl)
theorem _root_.L2.PI.imp {X : Cx} {tg x : Expr} {t t' : TI} (h : PI X tg x t) (w : ∀ σ H R, t' σ H R → t σ H R) : PI X tg x t' := ⟨fun pins s σ H R I q => h.run pins s σ H R I (w σ H R q)⟩
section
variable {X : Cx} {io : List Nat} {E : WX} {mk : List Kd} {kr : Kd} {W : Kx} {g : Gh} {F F' H H' : Hp} {rt : Nat → List Addr} {σ : St} {D : Ends} {n : Nat}

/-! ### sources -/
def mItL (m : M L3.D) : M (List L3.D) := fun e => (m e).bind fun d e1 => match d with
  | .lst ds => .ok ds e1
  | _ => .stk
def mItT (m : M L3.D) : M (List L3.D) := fun e => (m e).bind fun d e1 => match d with
  | .tup ds => .ok ds e1
  | _ => .stk
theorem iv_list {tg x : Expr} {m : M L3.D} (h : EV X io E mk x m .fr) : IV X io E mk tg x (mItL m) none := (pi_list h).imp fun σ H R h => by
  obtain ⟨g, F, e, rt, l, h⟩ := h
  refine ⟨g, F, e, rt, l, ?_⟩
  unfold mItL at h
  cases q : m e with
  | exc c fs => rw [q] at h; exact h
  | stk => rw [q] at h; exact h
  | ok d e1 =>
    rw [q] at h
    intro v H1 r
    obtain ⟨F1, rt1, rs, h1, l1, k, n, o⟩ := r.ex
    cases d with
    | lst ds =>
      have k1 := k.1
      simp only [Rep] at k1
      obtain ⟨a, vs, ev, q1, r1⟩ := k1
      refine ⟨a, ev, ⟨vs, SqL.of (l1.fr.sub _ _ q1)⟩, h _ F1 rt1 H1 h1 l1 ⟨fun n d F2 e2 rt2 σ2 H2 hd hs l2 _ => ?_, fun F2 e2 rt2 σ2 H2 hs l2 _ => ?_⟩⟩
      · obtain ⟨v, hv, rv⟩ := r1.get hd
        have q2 : SqL (kx X).K H2 a vs := SqL.of ((hs.trans l2.fr.sub) _ _ q1)
        refine ⟨⟨vs, v, q2, hv⟩, fun x H' y => .inl ⟨y.1, ?_⟩⟩
        have := y.2 vs q2
        rw [hv] at this; cases this
        exact rv.mono hs
      · exact ⟨vs, SqL.of ((hs.trans l2.fr.sub) _ _ q1), by rw [r1.length]; exact Nat.le_refl _⟩
    | _ => exact h.elim
theorem iv_tup {tg x : Expr} {m : M L3.D} (h : EV X io E mk x m .fr) : IV X io E mk tg x (mItT m) none := (pi_tup h).imp fun σ H R h => by
  obtain ⟨g, F, e, rt, l, h⟩ := h
  refine ⟨g, F, e, rt, l, ?_⟩
  unfold mItT at h
  cases q : m e with
  | exc c fs => rw [q] at h; exact h
  | stk => rw [q] at h; exact h
  | ok d e1 =>
    rw [q] at h
    intro v H1 r
    obtain ⟨F1, rt1, rs, h1, l1, k, n, o⟩ := r.ex
    cases d with
    | tup ds =>
      have k1 := k.1
      simp only [Rep] at k1
      obtain ⟨a, vs, ev, q1, r1⟩ := k1
      refine ⟨a, ev, ⟨vs, sqT_mono l1.fr.sub q1⟩, h _ F1 rt1 H1 h1 l1 ⟨fun n d F2 e2 rt2 σ2 H2 hd hs l2 _ => ?_, fun F2 e2 rt2 σ2 H2 hs l2 _ => ?_⟩⟩
      · obtain ⟨v, hv, rv⟩ := r1.get hd
        have q2 := sqT_mono (hs.trans l2.fr.sub) q1
        refine ⟨⟨vs, v, q2, hv⟩, fun x H' y => .inl ⟨y.1, ?_⟩⟩
        have := y.2 vs q2
        rw [hv] at this; cases this
        exact rv.mono hs
      · exact ⟨vs, sqT_mono (hs.trans l2.fr.sub) q1, by rw [r1.length]; exact Nat.le_refl _⟩
    | _ => exact h.elim
/-- a slot's own list, walked where it is -/
theorem iv_sl (i : Nat) {tg : Expr} {x : Str} {pos : Pos} (hk : mk.getD i .fr = .own .fr := by rfl) (hN : X.N[i]? = some x := by rfl) (hv : Vis X.env.scope x := by first | exact Or.inl rfl | exact Or.inr (Or.inl rfl) | exact Or.inr (Or.inr rfl)) (hd : (x == ("__debug__" : Str)) = false := by decide)
    (hcd : (x == ("__classdict__" : Str)) = false := by decide) : IV X io E mk tg (.Name x pos) (mItL (mVar i)) (some i) := (pi_list (pe_var hN hv hd hcd)).imp fun σ H R h => by
  obtain ⟨g, F, e, rt, l, h⟩ := h
  unfold mItL mVar at h
  cases h1 : e[i]? with
  | none => simp only [h1] at h; exact h.elim
  | some o =>
    cases o with
    | none => simp only [h1] at h; exact h.elim
    | some d =>
      simp only [h1, L3.R.bind_ok] at h
      obtain ⟨v, hv, k⟩ := l.var i _ h1
      rw [hk] at k
      cases d with
      | lst ds =>
        have view : ∀ {g2 : Gh} {F2 e2 rt2 σ2 H2}, Rl (kx X) io g2 F2 mk e2 rt2 σ2 H2 → SlOk (some i) ds e2 σ σ2 → ∃ p vs, v = .ref p ∧ SqL (kx X).K H2 p vs ∧ RepL (kx X) F2 ds vs := fun {g2 F2 e2 rt2 σ2 H2} l2 hs => by
          obtain ⟨w, hw, k2⟩ := l2.var i _ hs.1
          rw [hs.2, hv] at hw
          cases hw
          rw [hk] at k2
          obtain ⟨a, vs, e1, e2, e3⟩ := (RepK.top (k := .own .fr) rfl k2).lst l2.fr.sub
          exact ⟨a, vs, e1, SqL.of e2, e3⟩
        obtain ⟨p, vs, ev, q1, r1⟩ := view l ⟨h1, rfl⟩
        subst ev
        refine ⟨_, hv, p, rfl, ⟨vs, q1⟩, h _ F rt H (Same.refl _) l ⟨fun n d F2 e2 rt2 σ2 H2 hd hs l2 hsl => ?_, fun F2 e2 rt2 σ2 H2 hs l2 hsl => ?_⟩⟩
        · obtain ⟨p2, vs2, ev, q2, r2⟩ := view l2 hsl
          cases ev
          obtain ⟨v, hv, rv⟩ := r2.get hd
          refine ⟨⟨vs2, v, q2, hv⟩, fun x H' y => .inl ⟨y.1, ?_⟩⟩
          have := y.2 vs2 q2
          rw [hv] at this; cases this
          exact rv
        · obtain ⟨p2, vs2, ev, q2, r2⟩ := view l2 hsl
          cases ev
          exact ⟨vs2, q2, by rw [r2.length]; exact Nat.le_refl _⟩
      | _ => exact h.elim
def irange (lo : Int) (n : Nat) : List L3.D := (List.range n).map fun i : Nat => .int (lo + (i : Int))
theorem irange_get {lo : Int} {n i : Nat} {d : L3.D} (h : (irange lo n)[i]? = some d) : i < n ∧ d = .int (lo + (i : Int)) := by
  unfold irange at h
  rw [List.getElem?_map] at h
  by_cases hi : i < n
  · rw [List.getElem?_range hi] at h
    exact ⟨hi, (Option.some.inj h).symm⟩
  · rw [List.getElem?_eq_none (by simpa using hi)] at h; cases h
theorem irange_len {lo : Int} {n : Nat} : (irange lo n).length = n := by simp [irange]
theorem itr_ok {lo : Int} {k : Nat} {F1 : Hp} : ItOk W io g mk F1 σ none (Itr lo k) (irange lo k) :=
  ⟨fun n d F e rt σ H hd hs l _ => by
    obtain ⟨h1, h2⟩ := irange_get hd
    subst h2
    exact ⟨h1, fun x H' y => .inl ⟨y.1, by rw [y.2]; exact Rep.int⟩⟩, fun F e rt σ H hs l _ => by show k ≤ (irange lo k).length; rw [irange_len]; exact Nat.le_refl _⟩
@[irreducible] def inR (i : Int) : Bool := decide (-(2 ^ 62) ≤ i) && decide (i < 2 ^ 62)
theorem inR.h {i : Int} (h : inR i = true) : -(2 ^ 62) ≤ i ∧ i < 2 ^ 62 := by
  unfold inR at h
  rw [Bool.and_eq_true, decide_eq_true_eq, decide_eq_true_eq] at h
  exact h
def int1 : List L3.D → Option Int := fun ds => match ds with
  | [.int j] => some j
  | _ => none
def int2 : List L3.D → Option (Int × Int) := fun ds => match ds with
  | [.int i, .int j] => some (i, j)
  | _ => none
def int3 : List L3.D → Option (Int × Int × Int) := fun ds => match ds with
  | [.int i, .int j, .int k] => some (i, j, k)
  | _ => none
theorem int1.h {ds : List L3.D} {j : Int} (h : int1 ds = some j) : ds = [.int j] := by
  unfold int1 at h; split at h
  · cases h; rfl
  · cases h
theorem int2.h {ds : List L3.D} {i j : Int} (h : int2 ds = some (i, j)) : ds = [.int i, .int j] := by
  unfold int2 at h; split at h
  · cases h; rfl
  · cases h
theorem int3.h {ds : List L3.D} {i j k : Int} (h : int3 ds = some (i, j, k)) : ds = [.int i, .int j, .int k] := by
  unfold int3 at h; split at h
  · cases h; rfl
  · cases h
def mRng1 (ms : M (List L3.D)) : M (List L3.D) := fun e => (ms e).bind fun ds e1 => match int1 ds with
  | some j => if inR j = true then .ok (irange 0 j.toNat) e1 else .stk
  | _ => .stk
def mRng2 (ms : M (List L3.D)) : M (List L3.D) := fun e => (ms e).bind fun ds e1 => match int2 ds with
  | some (i, j) => if inR i = true ∧ inR j = true then .ok (irange i (j - i).toNat) e1 else .stk
  | _ => .stk
theorem iv_rng1 {tg a : Expr} {ms : M (List L3.D)} {os : List Op3} {p pos : Pos} (hg : Gl X "range") (hm : X.mg "range" = none) (ha : AV X io E mk [a] ms os) (ho : allEx os = true := by rfl) (hs : starEach [a] X.env = [(false, eval a X.env)] := by rfl) : IV X io E mk tg (.Call (.Name "range" p) [a] [] pos) (mRng1 ms) none := (pi_range1 hg hm ha hs).imp fun σ H R h => by
  obtain ⟨g, F, e, rt, l, h⟩ := h
  refine ⟨g, F, e, rt, l, ?_⟩
  unfold mRng1 at h
  cases q : ms e with
  | exc c fs => rw [q] at h; exact h
  | stk => rw [q] at h; exact h
  | ok ds e1 =>
    rw [q] at h
    intro vs F1 rt1 H1 s1 l1 a1
    have r := atOs_ex a1 ho
    simp only [L3.R.bind_ok] at h
    cases q2 : int1 ds with
    | none => rw [q2] at h; exact h.elim
    | some j =>
      rw [q2] at h
      have := int1.h q2
      subst this
      simp only [RepL] at r
      obtain ⟨v, w, ev, r1, r2⟩ := r
      subst r2 ev
      by_cases hj : inR j = true
      · simp only [hj, if_true] at h
        exact ⟨j, by rw [Rep.of_int r1], (inR.h hj).1, (inR.h hj).2, h _ F1 rt1 H1 s1 l1 itr_ok⟩
      · simp [hj] at h
theorem iv_rng2 {tg a b : Expr} {ms : M (List L3.D)} {os : List Op3} {p pos : Pos} (hg : Gl X "range") (hm : X.mg "range" = none) (ha : AV X io E mk [a, b] ms os) (ho : allEx os = true := by rfl) (hs : starEach [a, b] X.env = [(false, eval a X.env), (false, eval b X.env)] := by rfl) (hs2 : starEach [b] X.env = [(false, eval b X.env)] := by rfl) :
    IV X io E mk tg (.Call (.Name "range" p) [a, b] [] pos) (mRng2 ms) none := (pi_range2 hg hm ha hs hs2).imp fun σ H R h => by
  obtain ⟨g, F, e, rt, l, h⟩ := h
  refine ⟨g, F, e, rt, l, ?_⟩
  unfold mRng2 at h
  cases q : ms e with
  | exc c fs => rw [q] at h; exact h
  | stk => rw [q] at h; exact h
  | ok ds e1 =>
    rw [q] at h
    intro vs F1 rt1 H1 s1 l1 a1
    have r := atOs_ex a1 ho
    simp only [L3.R.bind_ok] at h
    cases q2 : int2 ds with
    | none => rw [q2] at h; exact h.elim
    | some ij =>
      obtain ⟨i, j⟩ := ij
      rw [q2] at h
      have := int2.h q2
      subst this
      simp only [RepL] at r
      obtain ⟨v, w, ev, r1, v2, w2, ev2, r2, r3⟩ := r
      subst r3 ev2 ev
      by_cases hj : inR i = true ∧ inR j = true
      · simp only [hj, and_self, if_true] at h
        exact ⟨i, j, by rw [Rep.of_int r1, Rep.of_int r2], ⟨(inR.h hj.1).1, (inR.h hj.1).2, (inR.h hj.2).1, (inR.h hj.2).2⟩, h _ F1 rt1 H1 s1 l1 itr_ok⟩
      · simp only [hj, if_false] at h

/-! ### for -/
def forD (gf : L3.D → Env3 → Option Env3) (body : M3) : List L3.D → M3
  | [], e => .nx e
  | d :: r, e => match gf d e with
    | none => .stk
    | some e1 => match body e1 with
      | .nx e2 => forD gf body r e2
      | .ct e2 => forD gf body r e2
      | .bk e2 => .nx e2
      | o => o
def sFor (src : M (List L3.D)) (gf : L3.D → Env3 → Option Env3) (body : M3) : M3 := fun e => (src e).st fun ds e1 => forD gf body ds e1
/-- how the loop's target takes an item -/
def TkOk (W : Kx) (io : List Nat) (mk : List Kd) (ts : List Nat) (g : TG) (gf : L3.D → Env3 → Option Env3) : Prop :=
  ∀ (gh : Gh) (F : Hp) (e : Env3) (rt : Nat → List Addr) (σ : St) (H : Hp) (d : L3.D) (x : V) (H' : Hp) (Q : St → Hp → Prop), Rl W io gh F mk e rt σ H → Yld W F H d x H' →
    (match gf d e with
      | some e' => ∀ σ' F' rt' H2, σ'.length = σ.length → (∀ j, j ∉ ts → σ'[j]? = σ[j]?) → Same F F' → Rl W io gh F' mk e' rt' σ' H2 → Q σ' H2
      | none => False) → g x σ H' Q
theorem Yld.ext {d : L3.D} {x : V} {e : Env3} (l : Rl W io g F mk e rt σ H) (y : Yld W F H d x H') : Rl W io g F mk e rt σ H' ∧ (H' = H ∧ Rep W F d x ∨ ∃ ds, d = .tup ds ∧ ∃ a vs, x = .ref a ∧ SqT W.K H' a vs ∧ RepL W F ds vs) := by
  rcases y with ⟨e1, r⟩ | ⟨T, xs, es, hT, e1, e2, e3, r⟩
  · subst e1; exact ⟨l, .inl ⟨rfl, r⟩⟩
  · subst e1 e2 e3
    have hF := fresh_F l.fr.sub hT
    refine ⟨l.grow (Same.refl _) (l.fr.fresh hT) fun i p hp => ?_, .inr ⟨es, rfl, T, xs, rfl, SqT.of upd_same, r⟩⟩
    obtain ⟨a, o, b⟩ := l.none hp
    exact ⟨upd_ne (fun e => by rw [e, hT] at b; cases b), a⟩
/-- a target of several names takes tuples -/
theorem tk_tup {b : List L3.D → Env3 → Option Env3} {ts : List Nat} : TkOk W io mk ts (tGt W io mk ts b) (gfT b) := fun gh F e rt σ H d x H' Q l y h => by
  obtain ⟨l2, y2⟩ := y.ext l
  cases d with
  | tup ds =>
    refine ⟨gh, F, e, rt, ds, l2, ?_, h⟩
    rcases y2 with ⟨e1, r⟩ | ⟨ds', e1, a, vs, ev, q, r⟩
    · simp only [Rep] at r
      obtain ⟨a, vs, ev, q, r⟩ := r
      exact ⟨a, vs, ev, sqT_mono l2.fr.sub q, r⟩
    · cases e1
      exact ⟨a, vs, ev, q, r⟩
  | _ => exact h.elim
/-- any target, where what is walked makes no tuples -/
theorem tk_any {gf : L3.D → Env3 → Option Env3} {ts : List Nat} : ∀ (gh : Gh) (F : Hp) (e : Env3) (rt : Nat → List Addr) (σ : St) (H : Hp) (d : L3.D) (x : V) (H' : Hp) (Q : St → Hp → Prop), Rl W io gh F mk e rt σ H → Yld W F H d x H' →
    (match gf d e with
      | some e' => ∀ σ' F' rt' H2, σ'.length = σ.length → (∀ j, j ∉ ts → σ'[j]? = σ[j]?) → Same F F' → Rl W io gh F' mk e' rt' σ' H2 → Q σ' H2
      | none => False) → tG W io mk ts gf x σ H' Q := fun gh F e rt σ H d x H' Q l y h => by
  rcases y with ⟨e1, r⟩ | ⟨T, xs, es, hT, e1, e2, e3, r⟩
  · subst e1
    exact ⟨gh, F, e, rt, d, l, r, h⟩
  · subst e1 e2 e3
    have hF := fresh_F l.fr.sub hT
    have l2 : Rl W io gh (L2.upd F T (.tup xs)) mk e rt σ (L2.upd H T (.tup xs)) := l.ext (sameUpd hF) (sameUpd2 l.fr.sub) (sameUpd hT) fun b hb => upd_ne fun e => hb (by rw [e]; exact hT)
    refine ⟨gh, _, e, rt, .tup es, l2, ?_, ?_⟩
    · simp only [Rep]
      exact ⟨T, xs, rfl, SqT.of upd_same, r.mono (sameUpd hF)⟩
    · cases q : gf (.tup es) e with
      | none => rw [q] at h; exact h.elim
      | some e' => rw [q] at h; exact fun σ' F' rt' H2 hl hj hs l' => h σ' F' rt' H2 hl hj ((sameUpd hF).trans hs) l'
/-- the loop's outcome is wanted -/
theorem for_core {gf : L3.D → Env3 → Option Env3} {body : M3} {tg : TG} {ts : List Nat} (tk : TkOk W io mk ts tg gf) (Q : Ends) (σ0 : St) (J : It) (F1 : Hp) (H1 : Hp) (ds : List L3.D) (e1 : Env3) (rt1 : Nat → List Addr) (l1 : Rl W io g F1 mk e1 rt1 σ0 H1) (it : ItOk W io g mk F1 σ0 none J ds)
    (h : Out W io g E mk kr Q F1 σ0.length (forD gf body ds e1)) :
    ∃ Wv : Nat → Nat → St → Hp → Prop, (∃ m, Wv 0 m σ0 H1) ∧ ∀ i m σ H, Wv i m σ H →
      (J.stop i H ∧ Q.nx σ H) ∨ (J.go i H ∧ ∃ N : St → Hp → Prop, (∀ σ' H', N σ' H' → ∃ m', m' < m ∧ Wv (i + 1) m' σ' H') ∧ ∀ x H', J.yld i H x H' → tg x σ H' fun σ2 H2 => tS W io E mk kr body { Q with nx := N, ct := N, bk := Q.nx } σ2 H2) := by
  generalize ho : forD gf body ds e1 = out at h
  refine ⟨fun i m σ H => ∃ F e rt, Same F1 F ∧ Rl W io g F mk e rt σ H ∧ σ.length = σ0.length ∧ i + m = ds.length ∧ forD gf body (ds.drop i) e = out, ⟨ds.length, F1, e1, rt1, Same.refl _, l1, rfl, by omega, ho⟩, ?_⟩
  rintro i m σ H ⟨F, e, rt, hs, l, hl, him, hf⟩
  by_cases hi : i < ds.length
  · have hd : ds[i]? = some ds[i] := List.getElem?_eq_getElem hi
    obtain ⟨go, yl⟩ := it.go i _ F e rt σ H hd hs l trivial
    have hdr : ds.drop i = ds[i] :: ds.drop (i + 1) := List.drop_eq_getElem_cons hi
    rw [hdr] at hf
    have h' := h.mono hs
    rw [← hf, ← hl] at h'
    refine .inr ⟨go, fun σ' H' => ∃ F' e' rt', Same F1 F' ∧ Rl W io g F' mk e' rt' σ' H' ∧ σ'.length = σ0.length ∧ forD gf body (ds.drop (i + 1)) e' = out, ?_, fun x H' y => ?_⟩
    · rintro σ' H' ⟨F', e', rt', hs', l', hl', hf'⟩
      exact ⟨m - 1, by omega, F', e', rt', hs', l', hl', by omega, hf'⟩
    · refine tk g F e rt σ H _ x H' _ l (yl x H' y) ?_
      unfold forD at h' hf
      cases qg : gf ds[i] e with
      | none => rw [qg] at h'; exact h'.elim
      | some e2 =>
        rw [qg] at h' hf
        intro σ2 F2 rt2 H2 hl2 _ hs2 l2
        refine ⟨g, F2, e2, rt2, l2, ?_⟩
        dsimp only at h' hf
        cases qb : body e2 with
        | nx e3 =>
          rw [qb] at hf
          exact fun σ3 F3 rt3 H3 hl3 hs3 l3 => ⟨F3, e3, rt3, hs.trans (hs2.trans hs3), l3, by omega, hf⟩
        | ct e3 =>
          rw [qb] at hf
          exact fun σ3 F3 rt3 H3 hl3 hs3 l3 => ⟨F3, e3, rt3, hs.trans (hs2.trans hs3), l3, by omega, hf⟩
        | bk e3 =>
          rw [qb] at h'
          exact fun σ3 F3 rt3 H3 hl3 hs3 l3 => h' σ3 F3 rt3 H3 (by omega) (hs2.trans hs3) l3
        | rt d e3 =>
          rw [qb] at h'
          exact fun v σ3 H3 hl3 r => h' v σ3 H3 (by omega) (r.mono hs2)
        | exc c fs =>
          rw [qb] at h'
          exact fun σ3 hl3 => Exq.mono hs2 (h' σ3 (by omega))
        | stk => rw [qb] at h'; exact h'
  · have e0 : i = ds.length := by omega
    subst e0
    rw [List.drop_length] at hf
    have h' := h.mono hs
    rw [← hf] at h'
    exact .inl ⟨it.stop F e rt σ H hs l trivial, h' σ F rt H hl (Same.refl _) l⟩
theorem tFor_of {gf : L3.D → Env3 → Option Env3} {body : M3} {src : M (List L3.D)} {tg : TG} {ts : List Nat} (tk : TkOk W io mk ts tg gf) (h : tS W io E mk kr (sFor src gf body) D σ H) : tFor (tI W io E mk src none) tg (tS W io E mk kr body) D σ H := by
  obtain ⟨g, F, e, rt, l, h⟩ := h
  refine ⟨g, F, e, rt, l, ?_⟩
  unfold sFor at h
  cases q : src e with
  | exc c fs => rw [q] at h; exact h σ rfl
  | stk => rw [q] at h; exact h
  | ok ds e1 =>
    rw [q] at h
    intro J F1 rt1 H1 hs l1 it
    exact for_core tk D σ J F1 H1 ds e1 rt1 l1 it (Out.mono hs h)
theorem sv_for {tg iter : Expr} {body : List Stmt} {pos : Pos} {src : M (List L3.D)} {gf : L3.D → Env3 → Option Env3} {mb : M3} (hp : PassesOwn (model X.prog X.w) X.A X.env X.xe) (hc : X.calm = true) (hi : IV X io E mk tg iter src none) {ts : List Nat} (hg : GV X io mk tg ts gf) (hb : BV X io E mk kr body mb)
    (hs : ∀ x, foldedSetIterable iter X.env x = pure x := by intro _; rfl) : SV X io E mk kr (.For tg iter body [] pos) (sFor src gf mb) :=
  (ps_for hp hc hi hg hb hs).imp fun D σ H h => tFor_of (fun gh F e rt σ H d x H' Q l y h => tk_any gh F e rt σ H d x H' Q l y h) h
theorem sv_forT {tg iter : Expr} {body : List Stmt} {pos : Pos} {src : M (List L3.D)} {b : List L3.D → Env3 → Option Env3} {mb : M3} (hp : PassesOwn (model X.prog X.w) X.A X.env X.xe) (hc : X.calm = true) (hi : IV X io E mk tg iter src none) {ts : List Nat} (hg : GT X io mk tg ts b) (hb : BV X io E mk kr body mb)
    (hs : ∀ x, foldedSetIterable iter X.env x = pure x := by intro _; rfl) : SV X io E mk kr (.For tg iter body [] pos) (sFor src (gfT b) mb) :=
  (ps_for hp hc hi hg hb hs).imp fun D σ H h => tFor_of tk_tup h

/-! ### while -/
def whD (t : M Bool) (body : M3) : Nat → M3
  | 0, _ => .stk
  | n + 1, e => (t e).st fun b e1 => if b = true then (match body e1 with
      | .nx e2 => whD t body n e2
      | .ct e2 => whD t body n e2
      | .bk e2 => .nx e2
      | o => o) else .nx e1
def sWhile (n : Nat) (t : M Bool) (body : M3) : M3 := fun e => whD t body n e
theorem sv_while (n : Nat) {c : Expr} {body : List Stmt} {pos : Pos} {t : M Bool} {mb : M3} (hp : PassesOwn (model X.prog X.w) X.A X.env X.xe) (hc : TV X io E mk c t) (hb : BV X io E mk kr body mb) : SV X io E mk kr (.While c body [] pos) (sWhile n t mb) := (ps_while hp hc hb).imp fun D σ0 H0 h => by
  obtain ⟨g, F1, e1, rt1, l1, h⟩ := h
  unfold sWhile at h
  generalize ho : whD t mb n e1 = out at h
  refine ⟨fun m σ H => ∃ F e rt, Same F1 F ∧ Rl (kx X) io g F mk e rt σ H ∧ σ.length = σ0.length ∧ whD t mb m e = out, ⟨n, F1, e1, rt1, Same.refl _, l1, rfl, ho⟩, ?_⟩
  rintro m σ H ⟨F, e, rt, hs, l, hl, hf⟩
  have h' := Out.mono hs h
  rw [← hf, ← hl] at h'
  cases m with
  | zero => exact h'.elim
  | succ m =>
    unfold whD at h' hf
    refine ⟨g, F, e, rt, l, ?_⟩
    cases q : t e with
    | exc c fs => rw [q] at h'; exact h' σ rfl
    | stk => rw [q] at h'; exact h'
    | ok b e2 =>
      rw [q] at h' hf
      intro F2 rt2 H2 hs2 l2
      cases b with
      | false =>
        simp only [R.st_ok, Bool.false_eq_true, if_false] at h' ⊢
        exact h' σ F2 rt2 H2 rfl hs2 l2
      | true =>
        simp only [R.st_ok, if_true] at h' hf ⊢
        refine ⟨fun σ' H' => ∃ F' e' rt', Same F1 F' ∧ Rl (kx X) io g F' mk e' rt' σ' H' ∧ σ'.length = σ0.length ∧ whD t mb m e' = out, ?_, g, F2, e2, rt2, l2, ?_⟩
        · rintro σ' H' ⟨F', e', rt', hs', l', hl', hf'⟩
          exact ⟨m, Nat.lt_succ_self _, F', e', rt', hs', l', hl', hf'⟩
        · cases qb : mb e2 with
          | nx e3 =>
            rw [qb] at hf
            exact fun σ3 F3 rt3 H3 hl3 hs3 l3 => ⟨F3, e3, rt3, hs.trans (hs2.trans hs3), l3, by omega, hf⟩
          | ct e3 =>
            rw [qb] at hf
            exact fun σ3 F3 rt3 H3 hl3 hs3 l3 => ⟨F3, e3, rt3, hs.trans (hs2.trans hs3), l3, by omega, hf⟩
          | bk e3 =>
            rw [qb] at h'
            exact fun σ3 F3 rt3 H3 hl3 hs3 l3 => h' σ3 F3 rt3 H3 (by omega) (hs2.trans hs3) l3
          | rt d e3 =>
            rw [qb] at h'
            exact fun v σ3 H3 hl3 r => h' v σ3 H3 (by omega) (r.mono hs2)
          | exc c fs =>
            rw [qb] at h'
            exact fun σ3 hl3 => Exq.mono hs2 (h' σ3 (by omega))
          | stk => rw [qb] at h'; exact h'
end
end L3

namespace L3
open PySem PySem.Spec L2
open PyProof.Rows hiding St

/-! # L3G: list comprehensions -/
def wipeE (vs : List Nat) (e : Env3) : Env3 := vs.foldr (fun v e => e.set v none) e
def restE (vs : List Nat) (e0 e : Env3) : Env3 := vs.foldr (fun v e => e.set v (e0[v]?).join) e
theorem wipeE_get : ∀ (vs : List Nat) (e : Env3) (i : Nat), (wipeE vs e)[i]? = if i ∈ vs then (if i < e.length then some none else none) else e[i]?
  | [], e, i => by simp [wipeE]
  | v :: vs, e, i => by
    have ih := wipeE_get vs e
    have hl : (wipeE vs e).length = e.length := by
      clear ih; induction vs with
      | nil => rfl
      | cons a b h => simp only [wipeE, List.foldr_cons, List.length_set] at h ⊢; exact h
    show ((wipeE vs e).set v none)[i]? = _
    rw [List.getElem?_set, ih, hl]
    by_cases h : v = i
    · subst h; simp
    · rw [if_neg h]
      simp only [List.mem_cons, Ne.symm h, false_or]
theorem wipeE_length (vs : List Nat) (e : Env3) : (wipeE vs e).length = e.length := by
  induction vs with
  | nil => rfl
  | cons a b h => simp only [wipeE, List.foldr_cons, List.length_set] at h ⊢; exact h
theorem restE_length (vs : List Nat) (e0 e : Env3) : (restE vs e0 e).length = e.length := by
  induction vs with
  | nil => rfl
  | cons a b h => simp only [restE, List.foldr_cons, List.length_set] at h ⊢; exact h
theorem restE_get : ∀ (vs : List Nat) (e0 e : Env3) (i : Nat), (restE vs e0 e)[i]? = if i ∈ vs then (if i < e.length then some (e0[i]?).join else none) else e[i]?
  | [], e0, e, i => by simp [restE]
  | v :: vs, e0, e, i => by
    have ih := restE_get vs e0 e
    show ((restE vs e0 e).set v _)[i]? = _
    rw [List.getElem?_set, ih, restE_length]
    by_cases h : v = i
    · subst h; simp
    · rw [if_neg h]
      simp only [List.mem_cons, Ne.symm h, false_or]
theorem wipe_get : ∀ (vs : List Nat) (σ : L2.St) (i : Nat), (wipe σ vs)[i]? = if i ∈ vs then (if i < σ.length then some none else none) else σ[i]?
  | [], σ, i => by simp [wipe]
  | v :: vs, σ, i => by
    have ih := wipe_get vs σ
    show ((wipe σ vs).set v none)[i]? = _
    rw [List.getElem?_set, ih, wipe_length]
    by_cases h : v = i
    · subst h; simp
    · rw [if_neg h]
      simp only [List.mem_cons, Ne.symm h, false_or]
section
variable {X : Cx} {io : List Nat} {E : WX} {mk : List Kd} {kr : Kd} {W : Kx} {g : Gh} {F F' H H' : Hp} {rt : Nat → List Addr} {σ : L2.St} {D : Ends} {n : Nat} {vs : List Nat}

/-! ### other ghosts for a while -/
def Gh.at (g : Gh) (F H : Hp) (rt : Nat → List Addr) (n : Nat) : Gh := ⟨F, H, (List.range n).flatMap rt, g.σ0, ((List.range n).flatMap rt).filter fun p => (g.H0 p).isNone || decide (p ∈ g.Fz)⟩
theorem Gh.at_fz {p : Addr} (h : p ∈ (g.at F H rt n).Fz) : p ∈ (List.range n).flatMap rt ∧ (g.H0 p = none ∨ p ∈ g.Fz) := by
  obtain ⟨h1, h2⟩ := List.mem_filter.mp h
  refine ⟨h1, ?_⟩
  rw [Bool.or_eq_true, Option.isNone_iff_eq_none, decide_eq_true_eq] at h2
  exact h2
theorem Gh.fz_at {p : Addr} (h1 : p ∈ (List.range n).flatMap rt) (h2 : g.H0 p = none ∨ p ∈ g.Fz) : p ∈ (g.at F H rt n).Fz :=
  List.mem_filter.mpr ⟨h1, by rw [Bool.or_eq_true, Option.isNone_iff_eq_none, decide_eq_true_eq]; exact h2⟩
theorem Rl.ghost {e : Env3} (l : Rl W io g F mk e rt σ H) : Rl W io (g.at F H rt e.length) F mk e rt σ H where
  fr := ⟨l.fr.sub, fun b o h _ => h, fun b o h => .inl h, Same.refl _, fun q hq => by
    obtain ⟨i, _, hq⟩ := List.mem_flatMap.mp (show q ∈ (List.range e.length).flatMap rt from hq)
    exact (l.none hq).2⟩
  len := l.len
  var := l.var
  emp := l.emp
  nd := l.nd
  dj := l.dj
  own := fun i p hp => .inr (by
    have hm : p ∈ (List.range e.length).flatMap rt := by
      refine List.mem_flatMap.mpr ⟨i, List.mem_range.mpr ?_, hp⟩
      refine Nat.lt_of_not_le fun hn => ?_
      rw [l.emp i fun d q => by rw [List.getElem?_eq_none hn] at q; cases q] at hp
      cases hp
    refine ⟨hm, ?_⟩
    rcases l.own i p hp with z | ⟨_, z | z⟩
    · exact .inr (Gh.fz_at hm (.inl z))
    · exact .inl z
    · exact .inr (Gh.fz_at hm (.inr z)))
  pin := l.pin
theorem Fr3.unghost {e : Env3} (l : Rl W io g F mk e rt σ H) (f : Fr3 (g.at F H rt e.length) F' H') : Fr3 g F' H' where
  sub := f.sub
  keep := fun b o h hb => by
    refine f.keep b o (l.fr.keep b o h hb) fun hm => ?_
    obtain ⟨i, _, hq⟩ := List.mem_flatMap.mp (show b ∈ (List.range e.length).flatMap rt from hm)
    rcases l.own i b hq with z | z
    · rw [h] at z; cases z
    · exact hb z.1
  frz := fun b o h => by
    rcases f.frz b o h with z | z | z
    · exact l.fr.frz b o z
    · exact .inr (.inl (l.fr.old z))
    · exact .inr (Gh.at_fz z).2
  f0 := l.fr.f0.trans f.f0
  wr := fun q hq => by
    by_cases hm : q ∈ (List.range e.length).flatMap rt
    · exact f.wr q hm
    · obtain ⟨o, h⟩ := l.fr.wr q hq
      exact ⟨o, f.keep q o h hm⟩
theorem Rl.unghost {e e' : Env3} {rt' : Nat → List Addr} {σ' : L2.St} (l : Rl W io g F mk e rt σ H) (k : Rl W io (g.at F H rt e.length) F' mk e' rt' σ' H') : Rl W io g F' mk e' rt' σ' H' where
  fr := k.fr.unghost l
  len := k.len
  var := k.var
  emp := k.emp
  nd := k.nd
  dj := k.dj
  own := fun i p hp => by
    rcases k.own i p hp with z | ⟨z, z2⟩
    · exact .inl (l.fr.old z)
    · obtain ⟨j, _, hq⟩ := List.mem_flatMap.mp (show p ∈ (List.range e.length).flatMap rt from z)
      rcases l.own j p hq with y | ⟨y, _⟩
      · exact .inl y
      · rcases z2 with z2 | z2
        · exact .inr ⟨y, .inl z2⟩
        · rcases (Gh.at_fz z2).2 with z3 | z3
          · exact .inl z3
          · exact .inr ⟨y, .inr z3⟩
  pin := k.pin
/-- a place that is nobody's stands, and stays nobody's -/
theorem Rl.bystand {e e' : Env3} {rt' : Nat → List Addr} {σ' : L2.St} {p : Addr} {o : HO} (hp : H p = some o) (hF : F p = Option.none) (hr : ∀ i, p ∉ rt i) (k : Rl W io (g.at F H rt e.length) F' mk e' rt' σ' H') :
    H' p = some o ∧ F' p = Option.none ∧ ∀ i, p ∉ rt' i := by
  have nm : p ∉ (List.range e.length).flatMap rt := fun hm => by
    obtain ⟨j, _, hq⟩ := List.mem_flatMap.mp hm
    exact hr j hq
  refine ⟨k.fr.keep p o hp nm, ?_, fun i hm => ?_⟩
  · cases q : F' p with
    | none => rfl
    | some u =>
      rcases k.fr.frz p u q with z | z | z
      · have z' : F p = some u := z
        rw [hF] at z'; cases z'
      · have z' : H p = Option.none := z
        rw [hp] at z'; cases z'
      · exact absurd (Gh.at_fz z).1 nm
  · rcases k.own i p hm with z | z
    · have z' : H p = Option.none := z
      rw [hp] at z'; cases z'
    · exact nm z.1
/-- a change at a place that is nobody's -/
theorem Rl.other {e : Env3} {p : Addr} {u : HO} (l : Rl W io g F mk e rt σ H) (h0 : g.H0 p = Option.none) (hw : p ∉ g.Wr) (hF : F p = Option.none) (hr : ∀ i, p ∉ rt i) : Rl W io g F mk e rt σ (L2.upd H p u) :=
  l.grow (Same.refl _) ⟨fun b o h => by rw [upd_ne (ne_of_none h hF)]; exact l.fr.sub b o h, fun b o h hb => by rw [upd_ne (ne_of_none h h0)]; exact l.fr.keep b o h hb, l.fr.frz, l.fr.f0, fun q hq => by
    obtain ⟨o, h⟩ := l.fr.wr q hq
    exact ⟨o, by rw [upd_ne (fun z : q = p => hw (by rw [← z]; exact hq))]; exact h⟩⟩ fun i q hq => ⟨upd_ne fun z => hr i (z ▸ hq), (l.none hq).1⟩

/-! ### the block's own slots -/
def frOk (mk : List Kd) (io : List Nat) (vs : List Nat) : Bool := vs.all fun i => (match mk.getD i .fr with | .fr => true | _ => false) && !io.contains i
theorem frOk_h (h : frOk mk io vs = true) {i : Nat} (hi : i ∈ vs) : mk.getD i .fr = .fr ∧ i ∉ io := by
  have := List.all_eq_true.mp h i hi
  rw [Bool.and_eq_true] at this
  refine ⟨?_, fun m => ?_⟩
  · cases q : mk.getD i .fr with
    | fr => rfl
    | own k => rw [q] at this; exact absurd this.1 Bool.false_ne_true
    | obj => rw [q] at this; exact absurd this.1 Bool.false_ne_true
    | dct _ => rw [q] at this; exact absurd this.1 Bool.false_ne_true
  · have h2 := this.2
    rw [List.contains_iff_mem.mpr m] at h2
    cases h2
theorem Rl.noroot {e : Env3} (l : Rl W io g F mk e rt σ H) {i : Nat} (hk : mk.getD i .fr = .fr) : rt i = [] := by
  cases q : e[i]? with
  | none => exact l.emp i fun d z => by rw [q] at z; cases z
  | some x =>
    cases x with
    | none => exact l.emp i fun d z => by rw [q] at z; cases z
    | some d =>
      obtain ⟨v, _, k⟩ := l.var i d q
      rw [hk] at k
      exact k.2
theorem Rl.wipe {e : Env3} (l : Rl W io g F mk e rt σ H) (hv : frOk mk io vs = true) : Rl W io g F mk (wipeE vs e) rt (wipe σ vs) H where
  fr := l.fr
  len := by rw [wipeE_length, wipe_length]; exact l.len
  var := fun i d h => by
    rw [wipeE_get] at h
    split at h
    · split at h <;> cases h
    · rename_i hi
      obtain ⟨v, e1, k⟩ := l.var i d h
      exact ⟨v, by rw [wipe_get, if_neg hi]; exact e1, k⟩
  emp := fun i h => by
    by_cases hi : i ∈ vs
    · exact l.noroot (frOk_h hv hi).1
    · exact l.emp i fun d q => h d (by rw [wipeE_get, if_neg hi]; exact q)
  nd := l.nd
  dj := l.dj
  own := l.own
  pin := fun i hi => by
    rw [wipe_get, if_neg fun m => (frOk_h hv m).2 hi]
    exact l.pin i hi
theorem Rl.rest {e0 e : Env3} {F0 H0 : Hp} {rt0 : Nat → List Addr} {σ2 : L2.St} (l0 : Rl W io g F0 mk e0 rt0 σ H0) (hs : Same F0 F) (l : Rl W io g F mk e rt σ2 H) (hv : frOk mk io vs = true) (hσ : ∀ j, j ∉ vs → σ2[j]? = σ[j]?) (hl : σ2.length = σ.length) (he : e.length = e0.length) :
    Rl W io g F mk (restE vs e0 e) rt σ H where
  fr := l.fr
  len := by rw [restE_length, ← hl]; exact l.len
  var := fun i d h => by
    rw [restE_get] at h
    by_cases hi : i ∈ vs
    · rw [if_pos hi] at h
      split at h
      · have h1 : (e0[i]?).join = some d := by simpa using h
        have h2 : e0[i]? = some (some d) := by
          cases q : e0[i]? with
          | none => rw [q] at h1; cases h1
          | some x => rw [q] at h1; simp at h1; rw [h1]
        obtain ⟨v, e1, k⟩ := l0.var i d h2
        rw [(frOk_h hv hi).1] at k ⊢
        exact ⟨v, e1, k.1.mono hs, l.noroot (frOk_h hv hi).1⟩
      · cases h
    · rw [if_neg hi] at h
      obtain ⟨v, e1, k⟩ := l.var i d h
      exact ⟨v, by rw [← hσ i hi]; exact e1, k⟩
  emp := fun i h => by
    by_cases hi : i ∈ vs
    · exact l.noroot (frOk_h hv hi).1
    · exact l.emp i fun d q => h d (by rw [restE_get, if_neg hi]; exact q)
  nd := l.nd
  dj := l.dj
  own := l.own
  pin := fun i hi => l0.pin i hi

/-! ### the comprehension -/
def R.nox {α : Type} (r : R α) : R α := match r with
  | .exc _ _ => .stk
  | r => r
@[simp] theorem R.nox_ok {α : Type} (a : α) (e : Env3) : (R.ok a e).nox = .ok a e := rfl
@[simp] theorem R.nox_stk {α : Type} : (R.stk : R α).nox = .stk := rfl
/-- the items that are kept, made -/
def lcD (vs : List Nat) (gf : L3.D → Env3 → Option Env3) (t : M Bool) (el : M L3.D) : List L3.D → M (List L3.D)
  | [], e => .ok [] e
  | d :: r, e => match gf d (wipeE vs e) with
    | none => .stk
    | some e1 => (t e1).nox.bind fun b e2 => if b = true then ((el e2).nox.bind fun y e3 => (lcD vs gf t el r e3).bind fun ys e4 => .ok (y :: ys) e4) else lcD vs gf t el r e2
/-- a slot's own list stands as it is -/
def SlG (sl : Option Nat) (ds : List L3.D) (e : Env3) : Prop := match sl with
  | none => True
  | some i => e[i]? = some (some (.lst ds))
open Classical in
noncomputable def gdS (sl : Option Nat) (ds : List L3.D) (gf : L3.D → Env3 → Option Env3) : L3.D → Env3 → Option Env3 := match sl with
  | none => gf
  | some i => fun d e => if e[i]? = some (some (.lst ds)) then gf d e else none
open Classical in
noncomputable def gdE (sl : Option Nat) (ds : List L3.D) (e : Env3) (r : R L3.D) : R L3.D := match sl with
  | none => r
  | some i => if e[i]? = some (some (.lst ds)) then r else .stk
@[irreducible] noncomputable def mLc (sl : Option Nat) (vs : List Nat) (src : M (List L3.D)) (gf : L3.D → Env3 → Option Env3) (t : M Bool) (el : M L3.D) : M L3.D := fun e => (src e).bind fun ds e1 =>
  if ds.length ≤ sizeLine then (lcD vs (gdS sl ds gf) t el ds (wipeE vs e1)).bind fun ys e2 => if e2.length = e1.length then gdE sl ds e2 (.ok (.lst ys) (restE vs e1 e2)) else .stk else .stk
theorem lcD_noexc {vs : List Nat} {gf : L3.D → Env3 → Option Env3} {t : M Bool} {el : M L3.D} : ∀ {ds : List L3.D} {e : Env3} {c : Str} {fs : List (Str × L3.D)}, lcD vs gf t el ds e ≠ .exc c fs
  | [], e, c, fs, h => by cases h
  | d :: r, e, c, fs, h => by
    unfold lcD at h
    cases q : gf d (wipeE vs e) with
    | none => rw [q] at h; cases h
    | some e1 =>
      rw [q] at h
      dsimp only at h
      cases q2 : t e1 with
      | exc c2 fs2 => rw [q2] at h; cases h
      | stk => rw [q2] at h; cases h
      | ok b e2 =>
        rw [q2] at h
        simp only [R.nox_ok, R.bind_ok] at h
        cases b with
        | false =>
          simp only [Bool.false_eq_true, if_false] at h
          exact lcD_noexc h
        | true =>
          simp only [if_true] at h
          cases q3 : el e2 with
          | exc c2 fs2 => rw [q3] at h; cases h
          | stk => rw [q3] at h; cases h
          | ok y e3 =>
            rw [q3] at h
            simp only [R.nox_ok, R.bind_ok] at h
            cases q4 : lcD vs gf t el r e3 with
            | exc c2 fs2 => exact lcD_noexc q4
            | stk => rw [q4] at h; cases h
            | ok ys e4 => rw [q4] at h; cases h
theorem gdS_some {sl : Option Nat} {ds : List L3.D} {gf : L3.D → Env3 → Option Env3} {d : L3.D} {e e' : Env3} (h : gdS sl ds gf d e = some e') : SlG sl ds e ∧ gf d e = some e' := by
  cases sl with
  | none => exact ⟨trivial, h⟩
  | some i =>
    simp only [gdS] at h
    split at h
    · rename_i h1; exact ⟨h1, h⟩
    · cases h
def slOut (sl : Option Nat) (vs : List Nat) : Bool := match sl with
  | none => true
  | some i => !vs.contains i
theorem lc_of {sl : Option Nat} {ts : List Nat} {src : M (List L3.D)} {gf : L3.D → Env3 → Option Env3} {t : M Bool} {el : M L3.D} {tg : TG} {tt : TT} (tk : TkOk W io mk ts tg gf) (hts : ∀ i, i ∈ ts → i ∈ vs) (hv : frOk mk io vs = true) (hsl : slOut sl vs = true)
    (htt : ∀ σ H Q, tT W io (fun _ _ _ _ => False) mk t σ H Q → tt σ H Q) (Q : VK) (h : tE W io E mk (mLc sl vs src gf t el) (.own .fr) σ H Q) : tLc (tI W io E mk src sl) tg tt (tE W io (fun _ _ _ _ => False) mk el .fr) vs σ H Q := by
  obtain ⟨g, F, e, rt, l, h⟩ := h
  refine ⟨g, F, e, rt, l, ?_⟩
  unfold mLc at h
  cases q : src e with
  | exc c fs => rw [q] at h; exact h
  | stk => rw [q] at h; exact h
  | ok ds e1 =>
    rw [q] at h
    intro J F1 rt1 H1 hs1 l1 it Dp hDp
    simp only [R.bind_ok] at h
    by_cases hz : ds.length ≤ sizeLine
    case neg => rw [if_neg hz] at h; exact h.elim
    rw [if_pos hz] at h
    have hF1 : F1 Dp = none := fresh_F l1.fr.sub hDp
    have hg0 : g.H0 Dp = none := l1.fr.old hDp
    have hgw : Dp ∉ g.Wr := fun m => by obtain ⟨o, z⟩ := l1.fr.wr Dp m; rw [hDp] at z; cases z
    have nr1 : ∀ i, Dp ∉ rt1 i := fun i m => by obtain ⟨_, o, b⟩ := l1.none m; rw [hDp] at b; cases b
    cases qo : lcD vs (gdS sl ds gf) t el ds (wipeE vs e1) with
    | exc c fs => exact absurd qo lcD_noexc
    | stk => rw [qo] at h; exact h.elim
    | ok ys eN =>
    rw [qo] at h
    simp only [R.bind_ok] at h
    by_cases hlen : eN.length = e1.length
    case neg => rw [if_neg hlen] at h; exact h.elim
    rw [if_pos hlen] at h
    have slok : ∀ {e5 : Env3} {σ5 : L2.St}, SlG sl ds e5 → (∀ j, j ∉ vs → σ5[j]? = σ[j]?) → SlOk sl ds e5 σ σ5 := fun {e5 σ5} a b => by
      cases sl with
      | none => exact trivial
      | some i => exact ⟨a, b i fun m => by simp only [slOut, List.contains_iff_mem.mpr m] at hsl; cases hsl⟩
    have wσ : ∀ j, j ∉ vs → (wipe σ vs)[j]? = σ[j]? := fun j hj => by rw [wipe_get, if_neg hj]
    have slw : ∀ {e5 : Env3}, SlG sl ds (wipeE vs e5) ↔ SlG sl ds e5 := fun {e5} => by
      cases sl with
      | none => exact Iff.rfl
      | some i =>
        simp only [SlG]
        rw [wipeE_get, if_neg fun m => by simp only [slOut, List.contains_iff_mem.mpr m] at hsl; cases hsl]
    have wcong : ∀ {e5 : Env3} (r : List L3.D), r ≠ [] → lcD vs (gdS sl ds gf) t el r (wipeE vs e5) = lcD vs (gdS sl ds gf) t el r e5 := fun {e5} r hr => by
      cases r with
      | nil => exact absurd rfl hr
      | cons d r =>
        unfold lcD
        have : wipeE vs (wipeE vs e5) = wipeE vs e5 := by
          refine List.ext_getElem? fun j => ?_
          rw [wipeE_get, wipeE_get, wipeE_length]
          by_cases hj : j ∈ vs
          · rw [if_pos hj, if_pos hj]
          · rw [if_neg hj]
        rw [this]
    refine ⟨fun i m H => ∃ F2 e2 rt2 acc vacc zs, Same F1 F2 ∧ Rl W io g F2 mk (wipeE vs e2) rt2 (wipe σ vs) H ∧ H Dp = some (.lst vacc) ∧ F2 Dp = none ∧ (∀ i, Dp ∉ rt2 i) ∧ RepL W F2 acc vacc ∧ acc.length ≤ i ∧ i + m = ds.length ∧
        lcD vs (gdS sl ds gf) t el (ds.drop i) e2 = .ok zs eN ∧ ys = acc ++ zs,
      ⟨ds.length, F1, wipeE vs e1, rt1, [], [], ys, Same.refl _, ?_, upd_same, hF1, nr1, .nil, Nat.le_refl _, by omega, qo, rfl⟩, ?_⟩
    · have e0 : wipeE vs (wipeE vs e1) = wipeE vs e1 := by
        refine List.ext_getElem? fun j => ?_
        rw [wipeE_get, wipeE_get, wipeE_length]
        by_cases hj : j ∈ vs
        · rw [if_pos hj, if_pos hj]
        · rw [if_neg hj]
      rw [e0]
      exact (l1.wipe hv).grow (Same.refl _) (l1.fr.fresh hDp) fun i p hp => ⟨upd_ne fun z => nr1 i (z ▸ hp), (l1.none hp).1⟩
    · rintro i m H ⟨F2, e2, rt2, acc, vacc, zs, hs2, l2, hD, hFD, hrD, ra, hai, him, hf, hys⟩
      by_cases hi : i < ds.length
      · have hd : ds[i]? = some ds[i] := List.getElem?_eq_getElem hi
        have hdr : ds.drop i = ds[i] :: ds.drop (i + 1) := List.drop_eq_getElem_cons hi
        rw [hdr] at hf
        unfold lcD at hf
        cases qg0 : gdS sl ds gf ds[i] (wipeE vs e2) with
        | none => rw [qg0] at hf; cases hf
        | some e3 =>
          obtain ⟨gd1, qg⟩ := gdS_some qg0
          rw [qg0] at hf
          dsimp only at hf
          obtain ⟨go, yl⟩ := it.go i _ F2 _ rt2 (wipe σ vs) H hd hs2 l2 (slok gd1 wσ)
          refine .inr ⟨go, fun H' => ∃ F2 e2 rt2 acc vacc zs, Same F1 F2 ∧ Rl W io g F2 mk (wipeE vs e2) rt2 (wipe σ vs) H' ∧ H' Dp = some (.lst vacc) ∧ F2 Dp = none ∧ (∀ i, Dp ∉ rt2 i) ∧ RepL W F2 acc vacc ∧ acc.length ≤ i + 1 ∧
              lcD vs (gdS sl ds gf) t el (ds.drop (i + 1)) e2 = .ok zs eN ∧ ys = acc ++ zs, ?_, fun x H' y => ?_⟩
          · rintro H' ⟨F2, e2, rt2, acc, vacc, zs, a1, a2, a4, a5, a6, a7, a8, a9, a10⟩
            exact ⟨m - 1, by omega, F2, e2, rt2, acc, vacc, zs, a1, a2, a4, a5, a6, a7, a8, by omega, a9, a10⟩
          · refine tk _ F2 _ rt2 (wipe σ vs) H _ x H' _ l2.ghost (yl x H' y) ?_
            rw [qg]
            intro σ3 F3 rt3 H3 hl3 hj3 hs3 l3
            obtain ⟨b1, b2, b3⟩ := Rl.bystand hD hFD hrD l3
            have eσ : wipe σ3 vs = wipe σ vs := by
              refine List.ext_getElem? fun j => ?_
              rw [wipe_get, wipe_get, hl3, wipe_length]
              by_cases hj : j ∈ vs
              · rw [if_pos hj, if_pos hj]
              · rw [if_neg hj, if_neg hj, hj3 j fun m => hj (hts j m), wipe_get, if_neg hj]
            refine ⟨eσ, htt _ _ _ ⟨_, F3, e3, rt3, l3, ?_⟩⟩
            cases qt : t e3 with
            | exc c fs => rw [qt] at hf; cases hf
            | stk => rw [qt] at hf; cases hf
            | ok b e4 =>
              rw [qt] at hf
              simp only [R.nox_ok, R.bind_ok] at hf
              intro F4 rt4 H4 hs4 l4
              obtain ⟨c1, c2, c3⟩ := Rl.bystand hD hFD hrD l4
              cases b with
              | false =>
                simp only [Bool.false_eq_true, if_false] at hf ⊢
                have l5 := (l2.unghost l4).wipe hv
                rw [eσ] at l5
                exact ⟨F4, e4, rt4, acc, vacc, zs, hs2.trans (hs3.trans hs4), l5, c1, c2, c3, ra.mono (hs3.trans hs4), by omega, hf, hys⟩
              | true =>
                simp only [if_true] at hf ⊢
                refine ⟨_, F4, e4, rt4, l4, ?_⟩
                cases qe : el e4 with
                | exc c fs => rw [qe] at hf; cases hf
                | stk => rw [qe] at hf; cases hf
                | ok y e5 =>
                  rw [qe] at hf
                  simp only [R.nox_ok, R.bind_ok] at hf
                  intro v H5 r5
                  obtain ⟨F5, rt5, rs5, hs5, l5, k5, n5, o5⟩ := r5.ex
                  obtain ⟨d1, d2, d3⟩ := Rl.bystand hD hFD hrD l5
                  cases q6 : lcD vs (gdS sl ds gf) t el (ds.drop (i + 1)) e5 with
                  | exc c fs => rw [q6] at hf; cases hf
                  | stk => rw [q6] at hf; cases hf
                  | ok ws e6 =>
                    rw [q6] at hf
                    simp only [R.bind_ok, R.ok.injEq] at hf
                    obtain ⟨hf1, hf2⟩ := hf
                    have lr := ra.length
                    refine ⟨vacc, d1, by omega, F5, e5, rt5, acc ++ [y], vacc ++ [v], ws, hs2.trans (hs3.trans (hs4.trans hs5)), ?_, upd_same, d2, d3, (ra.mono (hs3.trans (hs4.trans hs5))).append (.cons k5.1 .nil), by simp; omega, by rw [hf2] at q6; exact q6, by rw [hys, ← hf1]; simp⟩
                    have l6 := (l2.unghost l5).wipe hv
                    rw [eσ] at l6
                    exact l6.other hg0 hgw d2 d3
      · have e0 : i = ds.length := by omega
        subst e0
        rw [List.drop_length] at hf
        simp only [lcD, R.ok.injEq] at hf
        obtain ⟨hf1, hf2⟩ := hf
        subst hf2
        have gdN : SlG sl ds e2 ∧ ∀ v H', ResK W io g F mk (.own .fr) (.lst ys) (restE vs e1 e2) σ v H' → Q v H' := by
          cases sl with
          | none => exact ⟨trivial, h⟩
          | some i =>
            simp only [gdE] at h
            by_cases hc : e2[i]? = some (some (.lst ds))
            · rw [if_pos hc] at h; exact ⟨hc, h⟩
            · rw [if_neg hc] at h; exact h.elim
        refine .inl ⟨it.stop F2 _ rt2 (wipe σ vs) H hs2 l2 (slok (slw.mpr gdN.1) wσ), gdN.2 _ _ ?_⟩
        have er : restE vs e1 e2 = restE vs e1 (wipeE vs e2) := by
          refine List.ext_getElem? fun j => ?_
          rw [restE_get, restE_get, wipeE_length, wipeE_get]
          by_cases hj : j ∈ vs
          · rw [if_pos hj, if_pos hj]
          · rw [if_neg hj, if_neg hj, if_neg hj]
        rw [er]
        have l7 := l1.rest hs2 l2 hv wσ (wipe_length _ _) (by rw [wipeE_length]; exact hlen)
        rw [← hf1, List.append_nil] at hys
        subst hys
        refine ⟨F2, rt2, [Dp], hs1.trans hs2, l7, ?_, by simp, fun p hp => ?_⟩
        · simp only [RepK]
          exact ⟨Dp, vacc, [], rfl, hD, hFD, (repKs_fr (W := W) (H := H)).mpr ⟨ra, rfl⟩, rfl⟩
        · rw [List.mem_singleton.mp hp]
          exact ⟨hrD, hg0, hgw⟩
abbrev E00 : WX := fun _ _ _ _ => False
def mYes : M Bool := fun e => .ok true e
theorem tYes_of {Q : Bool → Hp → Prop} (h : tT W io E00 mk mYes σ H Q) : tYes σ H Q := by
  obtain ⟨g, F, e, rt, l, h⟩ := h
  exact h F rt H (Same.refl _) l
/-- a comprehension's parts in its own block -/
def inBlk (X : Cx) (scope : Scope) (P : Cx → Prop) : Prop := ∀ (s : Shared) (H : Hp) (C : Addr) (cl : List (Str × Addr)) (fp : List Addr), P (X.blk s H scope (compEnvC scope cl C X.env) fp)
section
variable {elt tg iter c : Expr} {scope : Scope} {own : List (Str × Nat)} {pos : Pos} {src : M (List L3.D)} {gf : L3.D → Env3 → Option Env3} {b : List L3.D → Env3 → Option Env3} {t : M Bool} {el : M L3.D} {ts : List Nat} {sl : Option Nat}
def subL (ts vs : List Nat) : Bool := ts.all fun i => vs.contains i
theorem subL.h {ts vs : List Nat} (h : subL ts vs = true) : ∀ i, i ∈ ts → i ∈ vs := fun i hi => List.contains_iff_mem.mp (List.all_eq_true.mp h i hi)
theorem ev_lc (own : List (Str × Nat)) (hc : X.calm = true) (hi : IV X io E mk tg iter src sl) (ok : BlkOk X.N X.env.scope scope own) (hg : inBlk X scope fun Y => GV Y io mk tg ts gf) (he : inBlk X scope fun Y => EV Y io E00 mk elt el .fr)
    (h1 : subL ts (own.map (·.2)) = true := by rfl) (h2 : frOk mk io (own.map (·.2)) = true := by rfl) (h3 : slOut sl (own.map (·.2)) = true := by rfl) (hN : X.N.Nodup := by assumption) (hs : ∀ x, foldedSetIterable iter X.env x = pure x := by intro _; rfl) :
    EV X io E mk (.ListComp elt [⟨tg, iter, [], 0⟩] scope pos) (mLc sl (own.map (·.2)) src gf mYes el) (.own .fr) :=
  (pe_lc (own := own) (te := tE (kx X) io E00 mk el .fr) (g := tG (kx X) io mk ts gf) (tt := tYes) hc hN hi ok hg (fun _ _ _ _ _ => pts_nil) he hs).imp fun σ H Q h =>
    lc_of (fun gh F e rt σ H d x H' Q l y h => tk_any gh F e rt σ H d x H' Q l y h) (subL.h h1) h2 h3 (fun σ H Q h => tYes_of h) Q h
theorem ev_lcI (own : List (Str × Nat)) (hc : X.calm = true) (hi : IV X io E mk tg iter src sl) (ok : BlkOk X.N X.env.scope scope own) (hg : inBlk X scope fun Y => GV Y io mk tg ts gf) (ht : inBlk X scope fun Y => TV Y io E00 mk c t) (he : inBlk X scope fun Y => EV Y io E00 mk elt el .fr)
    (h1 : subL ts (own.map (·.2)) = true := by rfl) (h2 : frOk mk io (own.map (·.2)) = true := by rfl) (h3 : slOut sl (own.map (·.2)) = true := by rfl) (hN : X.N.Nodup := by assumption) (hs : ∀ x, foldedSetIterable iter X.env x = pure x := by intro _; rfl) :
    EV X io E mk (.ListComp elt [⟨tg, iter, [c], 0⟩] scope pos) (mLc sl (own.map (·.2)) src gf t el) (.own .fr) :=
  (pe_lc (own := own) (te := tE (kx X) io E00 mk el .fr) (g := tG (kx X) io mk ts gf) (tt := tT (kx X) io E00 mk t) hc hN hi ok hg (fun s H C cl fp => pts_one (ht s H C cl fp)) he hs).imp fun σ H Q h =>
    lc_of (fun gh F e rt σ H d x H' Q l y h => tk_any gh F e rt σ H d x H' Q l y h) (subL.h h1) h2 h3 (fun σ H Q h => h) Q h
theorem ev_lcT (own : List (Str × Nat)) (hc : X.calm = true) (hi : IV X io E mk tg iter src sl) (ok : BlkOk X.N X.env.scope scope own) (hg : inBlk X scope fun Y => GT Y io mk tg ts b) (he : inBlk X scope fun Y => EV Y io E00 mk elt el .fr)
    (h1 : subL ts (own.map (·.2)) = true := by rfl) (h2 : frOk mk io (own.map (·.2)) = true := by rfl) (h3 : slOut sl (own.map (·.2)) = true := by rfl) (hN : X.N.Nodup := by assumption) (hs : ∀ x, foldedSetIterable iter X.env x = pure x := by intro _; rfl) :
    EV X io E mk (.ListComp elt [⟨tg, iter, [], 0⟩] scope pos) (mLc sl (own.map (·.2)) src (gfT b) mYes el) (.own .fr) :=
  (pe_lc (own := own) (te := tE (kx X) io E00 mk el .fr) (g := tGt (kx X) io mk ts b) (tt := tYes) hc hN hi ok hg (fun _ _ _ _ _ => pts_nil) he hs).imp fun σ H Q h =>
    lc_of tk_tup (subL.h h1) h2 h3 (fun σ H Q h => tYes_of h) Q h
theorem ev_lcTI (own : List (Str × Nat)) (hc : X.calm = true) (hi : IV X io E mk tg iter src sl) (ok : BlkOk X.N X.env.scope scope own) (hg : inBlk X scope fun Y => GT Y io mk tg ts b) (ht : inBlk X scope fun Y => TV Y io E00 mk c t) (he : inBlk X scope fun Y => EV Y io E00 mk elt el .fr)
    (h1 : subL ts (own.map (·.2)) = true := by rfl) (h2 : frOk mk io (own.map (·.2)) = true := by rfl) (h3 : slOut sl (own.map (·.2)) = true := by rfl) (hN : X.N.Nodup := by assumption) (hs : ∀ x, foldedSetIterable iter X.env x = pure x := by intro _; rfl) :
    EV X io E mk (.ListComp elt [⟨tg, iter, [c], 0⟩] scope pos) (mLc sl (own.map (·.2)) src (gfT b) t el) (.own .fr) :=
  (pe_lc (own := own) (te := tE (kx X) io E00 mk el .fr) (g := tGt (kx X) io mk ts b) (tt := tT (kx X) io E00 mk t) hc hN hi ok hg (fun s H C cl fp => pts_one (ht s H C cl fp)) he hs).imp fun σ H Q h =>
    lc_of tk_tup (subL.h h1) h2 h3 (fun σ H Q h => h) Q h
end
end
end L3

namespace L3
open PySem PySem.Spec L2
open PyProof.Rows hiding St

/-! # L3H: defs and calls -/
inductive FR where
  | ok (d : D) | exc (c : Str) (fs : List (Str × D)) | stk
inductive FRr where
  | ok (d : D) (row : List D) | stk
def spP (W : Kx) (n : Nat) (kr : Kd) (den : List D → FR) : Sp := fun vs H Q E =>
  ∃ F ds, Same F H ∧ RepL W F ds vs ∧ ds.length = n ∧ match den ds with
    | .ok d => ∀ v H' F' rs, Same F F' → Same F' H' → Same H H' → (∀ b o, F' b = some o → F b = some o ∨ H b = none) → RepK W F' H' kr d v rs → rs.Nodup → (∀ p, p ∈ rs → H p = none) → Q v H'
    | .exc c fs => ∀ C a H' F' ws, W.mg c = some (.ref C) → Same F F' → Same F' H' → Same H H' → (∀ b o, F' b = some o → F b = some o ∨ H b = none) → H' a = some (.xd ((fs.map (·.1)).zip ws)) → RepL W F' (fs.map (·.2)) ws → E (.ref C) (some a) H'
    | .stk => False
def spR (W : Kx) (n : Nat) (kr : Kd) (den : List D → List D → FRr) : Sp := fun vs H Q _ =>
  ∃ F ds p vr row ws, Same F H ∧ vs = .ref p :: ws ∧ H p = some (.lst vr) ∧ F p = none ∧ RepL W F row vr ∧ RepL W F ds ws ∧ ds.length = n ∧ match den row ds with
    | .ok d row' => ∀ v H' F' rs vr', Same F F' → Same F' H' → (∀ b o, H b = some o → b ≠ p → H' b = some o) → (∀ b o, F' b = some o → F b = some o ∨ H b = none) → H' p = some (.lst vr') → F' p = none → RepL W F' row' vr' → RepK W F' H' kr d v rs → rs.Nodup → (∀ q, q ∈ rs → H q = none) → Q v H'
    | .stk => False
def env0 (len : Nat) (ds : List D) : Env3 := ds.map some ++ List.replicate (len - ds.length) none
def denP (len : Nat) (m : M3) : List D → FR := fun ds => match m (env0 len ds) with
  | .rt d _ => .ok d
  | .nx _ => .ok .non
  | .exc c fs => .exc c fs
  | _ => .stk
def denR (len : Nat) (m : M3) : List D → List D → FRr := fun row ds => match m (env0 len (.lst row :: ds)) with
  | .rt d e => (match e[0]? with
    | some (some (L3.D.lst row')) => .ok d row'
    | _ => .stk)
  | .nx e => (match e[0]? with
    | some (some (L3.D.lst row')) => .ok .non row'
    | _ => .stk)
  | _ => .stk
section
variable {P : Program} {w : World} {K : PySem.W.Frag} {mg : Str → Option Value} {base : Heap} {W : Kx}

theorem env0_get {len : Nat} {ds : List D} {i : Nat} {d : D} (h : (env0 len ds)[i]? = some (some d)) : ds[i]? = some d := by
  unfold env0 at h
  by_cases hi : i < ds.length
  · rw [List.getElem?_append_left (by simpa using hi), List.getElem?_map] at h
    cases q : ds[i]? with
    | none => rw [q] at h; cases h
    | some x => rw [q] at h; simpa using h
  · rw [List.getElem?_append_right (by simpa using hi), List.getElem?_replicate] at h
    split at h <;> cases h
theorem start_get {N : List Str} {vs : List V} {i : Nat} {v : V} (h : vs[i]? = some v) : (L2.start N vs)[i]? = some (some v) := by
  unfold L2.start
  have hi : i < vs.length := (List.getElem?_eq_some_iff.mp h).1
  rw [List.getElem?_append_left (by simpa using hi), List.getElem?_map, h]
  rfl
theorem start_length {N : List Str} {vs : List V} (h : vs.length ≤ N.length) : (L2.start N vs).length = N.length := by
  unfold L2.start
  rw [List.length_append, List.length_map, List.length_replicate]; omega
theorem env0_length {len : Nat} {ds : List D} (h : ds.length ≤ len) : (env0 len ds).length = len := by
  unfold env0
  rw [List.length_append, List.length_map, List.length_replicate]; omega
/-- the slots at a def's entry, all frozen -/
theorem rl_start {F H : Hp} {mk : List Kd} {ds : List D} {vs : List V} {N : List Str} (hs : Same F H) (r : RepL W F ds vs) (hl : ds.length ≤ N.length) (hk : ∀ i, i < ds.length → mk.getD i .fr = .fr) :
    Rl W [] ⟨F, H, [], L2.start N vs, []⟩ F mk (env0 N.length ds) (fun _ => []) (L2.start N vs) H where
  fr := ⟨hs, fun b o h _ => h, fun b o h => .inl h, Same.refl _, fun q hq => by cases hq⟩
  len := by rw [env0_length hl, start_length (by rw [← r.length]; exact hl)]; exact Nat.le_refl _
  var := fun i d h => by
    have h1 := env0_get h
    obtain ⟨v, hv, rv⟩ := r.get h1
    refine ⟨v, start_get hv, ?_⟩
    rw [hk i (List.getElem?_eq_some_iff.mp h1).1]
    exact ⟨rv, rfl⟩
  emp := fun _ _ => rfl
  nd := fun _ => .nil
  dj := fun _ _ _ _ h => by cases h
  own := fun _ _ h => by cases h
  pin := fun _ h => by cases h
theorem rl_startR {F H : Hp} {mk : List Kd} {ds row : List D} {ws vr : List V} {p : Addr} {N : List Str} (hs : Same F H) (hp : H p = some (.lst vr)) (hF : F p = none) (rr : RepL W F row vr) (r : RepL W F ds ws) (hl : ds.length + 1 ≤ N.length) (h0 : mk.getD 0 .fr = .own .fr) (hk : ∀ i, 0 < i → i < ds.length + 1 → mk.getD i .fr = .fr) :
    Rl W [0] ⟨F, H, [p], L2.start N (.ref p :: ws), []⟩ F mk (env0 N.length (.lst row :: ds)) (fun i => if i = 0 then [p] else []) (L2.start N (.ref p :: ws)) H where
  fr := ⟨hs, fun b o h _ => h, fun b o h => .inl h, Same.refl _, fun q hq => by rw [List.mem_singleton.mp hq]; exact ⟨_, hp⟩⟩
  len := by rw [env0_length (by simpa using hl), start_length (by rw [List.length_cons, ← r.length]; exact hl)]; exact Nat.le_refl _
  var := fun i d h => by
    have h1 := env0_get h
    cases i with
    | zero =>
      have e : D.lst row = d := by simpa using h1
      subst e
      refine ⟨.ref p, start_get rfl, ?_⟩
      rw [h0, if_pos rfl]
      simp only [RepK]
      exact ⟨p, vr, [], rfl, hp, hF, (repKs_fr (W := W) (H := H)).mpr ⟨rr, rfl⟩, rfl⟩
    | succ i =>
      have h2 : ds[i]? = some d := by simpa using h1
      obtain ⟨v, hv, rv⟩ := r.get h2
      refine ⟨v, start_get (by simpa using hv), ?_⟩
      rw [hk (i + 1) (Nat.succ_pos _) (Nat.succ_lt_succ (List.getElem?_eq_some_iff.mp h2).1), if_neg (Nat.succ_ne_zero _)]
      exact ⟨rv, rfl⟩
  emp := fun i h => by
    split
    · rename_i hi
      subst hi
      refine absurd ?_ (h (.lst row))
      unfold env0
      rfl
    · rfl
  nd := fun i => by split <;> simp
  dj := fun i j q hij h1 h2 => by
    split at h1
    · split at h2
      · rename_i a b; exact hij (a.trans b.symm)
      · cases h2
    · cases h1
  own := fun i q h => by
    split at h
    · rename_i hi
      exact .inr ⟨h, .inl (by rw [hi]; exact .head _)⟩
    · cases h
  pin := fun _ _ => rfl

/-- what leaves a def -/
abbrev wE (E : XK) : WX := fun c d _ H => E c d H
/-- the context of a def's body -/
structure InDef (X : Cx) (E : XK) (k : Nat) (N : List Str) (st : Stmt) : Prop where
  calm : X.calm = true
  tk : Takes X (wE E)
  po : PassesOwn (model X.prog X.w) X.A X.env X.xe
  room : Room k X.A
def BodyOk (P : Program) (w : World) (K : PySem.W.Frag) (mg : Str → Option Value) (base : Heap) (N : List Str) (qual : Str) (st : Stmt) (f : Addr) (k : Nat) (io : List Nat) (mk : List Kd) (kr : Kd) (m : M3) : Prop :=
  ∀ (cdv : Value) (A : Around) (outer : List Env) (s : Shared) (H : Hp) (E : XK), InDef (cxOf (L2.CX P w) P w K mg base N qual (defScope st) f cdv A outer s H E) E k N st →
    BV (cxOf (L2.CX P w) P w K mg base N qual (defScope st) f cdv A outer s H E) io (wE E) mk kr (defBody st) m
def allFr (mk : List Kd) (n : Nat) : Bool := (List.range n).all fun i => match mk.getD i .fr with | .fr => true | _ => false
theorem allFr_h {mk : List Kd} {n : Nat} (h : allFr mk n = true) : ∀ i, i < n → mk.getD i .fr = .fr := fun i hi => by
  have := List.all_eq_true.mp h i (List.mem_range.mpr hi)
  cases q : mk.getD i .fr with
  | fr => rfl
  | own k => rw [q] at this; exact absurd this Bool.false_ne_true
  | obj => rw [q] at this; exact absurd this Bool.false_ne_true
  | dct _ => rw [q] at this; exact absurd this Bool.false_ne_true
theorem fn_pure {x qual : Str} {st : Stmt} {f : Addr} {fd : FuncData} {N ps : List Str} {k : Nat} {mk : List Kd} {kr : Kd} {m : M3} (Fn : Fun K x qual st f fd) (S : FnScope N ps (defScope st)) (hk : allFr mk ps.length = true) (hl : ps.length ≤ N.length)
    (body : BodyOk P w K mg base N qual st f k [] mk kr m) : FnOk P w K mg base (L2.CX P w) (k + 1) f fd ps (spP ⟨K, mg⟩ ps.length kr (denP N.length m)) := by
  refine Fn.okX S (fun vs H Q E h => ?_) fun cdv A outer s H vs Q E hr h => ?_
  · obtain ⟨F, ds, _, r, e, _⟩ := h
    rw [← r.length, e]
  · obtain ⟨F, ds, hs, r, e, h⟩ := h
    refine ⟨_, body cdv A outer s H E ⟨rfl, takes_of rfl rfl rfl rfl, passes_of rfl, hr⟩, ⟨F, H, [], L2.start N vs, []⟩, F, env0 N.length ds, fun _ => [], rl_start hs r (by rw [e]; exact hl) (fun i hi => allFr_h hk i (by rw [← e]; exact hi)), ?_⟩
    unfold denP at h
    cases q : m (env0 N.length ds) with
    | rt d e' =>
      rw [q] at h
      rintro v σ' H' _ r
      rcases r with ⟨F', rt, rs, h1, l, k, n, o⟩ | ⟨hkr, F', rt, i, hif, h1, l, k⟩ | ⟨F', rt, i, hi0, h1, l, k⟩
      · exact h v H' F' rs h1 l.fr.sub (fun b u z => l.fr.keep b u z fun m => by cases m) (l.fr.frz0 rfl) k n fun p hp => (o p hp).2.1
      rotate_left
      · exact h v H' F' (rt i) h1 l.fr.sub (fun b u z => l.fr.keep b u z fun m => by cases m) (l.fr.frz0 rfl) k (l.nd i) fun p hp => by
          rcases l.own i p hp with z | z
          · exact z
          · cases z.1
      · subst hkr
        have hn : ∀ p ∈ rt i, F' p = none := fun p hp => (l.none hp).1
        have ho : ∀ p ∈ rt i, H p = none := fun p hp => by
          rcases l.own i p hp with z | z
          · exact z
          · cases z.1
        have fr2 := l.fr.freeze hn (fun p hp => .inl (ho p hp))
        exact h v H' (frz F' H' (rt i)) [] (h1.trans (frz_of hn)) fr2.sub (fun b u z => fr2.keep b u z fun m => by cases m) (fr2.frz0 rfl) ⟨RepK.toRep (frz_of hn) hif.2 k fun p hp => frz_in hp, rfl⟩ .nil fun p hp => by cases hp
    | nx e' =>
      rw [q] at h
      intro σ' F' rt' H' _ h1 l
      exact h .non H' F' [] h1 l.fr.sub (fun b u z => l.fr.keep b u z fun m => by cases m) (l.fr.frz0 rfl) (RepK.flat_of rfl Rep.non) .nil fun p hp => by cases hp
    | exc c fs =>
      rw [q] at h
      intro σ _ C a σ' H' F' ws hC _ h1 fr hx rx
      exact h C a H' F' ws hC h1 fr.sub (fun b u z => fr.keep b u z fun m => by cases m) (fr.frz0 rfl) hx rx
    | bk e' => rw [q] at h; exact h.elim
    | ct e' => rw [q] at h; exact h.elim
    | stk => rw [q] at h; exact h.elim
theorem rowOf {F' H' : Hp} {mk : List Kd} {g : Gh} {e : Env3} {rt : Nat → List Addr} {σ : L2.St} {p : Addr} {row' : List D} (l : Rl W [0] g F' mk e rt σ H') (h0 : mk.getD 0 .fr = .own .fr) (hp : g.σ0[0]? = some (some (.ref p))) (he : e[0]? = some (some (.lst row'))) :
    ∃ vr', H' p = some (.lst vr') ∧ F' p = none ∧ RepL W F' row' vr' ∧ p ∈ rt 0 := by
  obtain ⟨v, hv, k⟩ := l.var 0 _ he
  rw [l.pin 0 (List.mem_singleton.mpr rfl), hp] at hv
  cases hv
  rw [h0] at k
  simp only [RepK] at k
  obtain ⟨p', vs, qs, e1, e2, e3, rs, e4⟩ := k
  cases e1
  exact ⟨vs, e2, e3, ((repKs_fr (W := W) (H := H') (F := F')).mp rs).1, by rw [e4]; exact .head _⟩
theorem fn_row {x qual : Str} {st : Stmt} {f : Addr} {fd : FuncData} {N ps : List Str} {p0 : Str} {k : Nat} {mk : List Kd} {kr : Kd} {m : M3} (Fn : Fun K x qual st f fd) (S : FnScope N (p0 :: ps) (defScope st)) (h0 : mk.getD 0 .fr = .own .fr) (hk : allFr mk.tail ps.length = true) (hl : ps.length + 1 ≤ N.length)
    (body : BodyOk P w K mg base N qual st f k [0] mk kr m) : FnOk P w K mg base (L2.CX P w) (k + 1) f fd (p0 :: ps) (spR ⟨K, mg⟩ ps.length kr (denR N.length m)) := by
  refine Fn.okX S (fun vs H Q E h => ?_) fun cdv A outer s H vs Q E hr h => ?_
  · obtain ⟨F, ds, p, vr, row, ws, _, ev, _, _, _, r, e, _⟩ := h
    subst ev
    rw [List.length_cons, List.length_cons, ← r.length, e]
  · obtain ⟨F, ds, p, vr, row, ws, hs, ev, hp, hF, rr, r, e, h⟩ := h
    subst ev
    refine ⟨_, body cdv A outer s H E ⟨rfl, takes_of rfl rfl rfl rfl, passes_of rfl, hr⟩, ⟨F, H, [p], L2.start N (.ref p :: ws), []⟩, F, env0 N.length (.lst row :: ds), _, rl_startR hs hp hF rr r (by rw [e]; exact hl) h0 (fun i hi1 hi2 => ?_), ?_⟩
    · obtain ⟨j, rfl⟩ : ∃ j, i = j + 1 := ⟨i - 1, by omega⟩
      have := allFr_h hk j (by rw [← e]; omega)
      cases mk with
      | nil => rfl
      | cons a mk => simpa using this
    have hst : (L2.start N (.ref p :: ws))[0]? = some (some (.ref p)) := start_get rfl
    unfold denR at h
    cases q : m (env0 N.length (.lst row :: ds)) with
    | rt d e' =>
      rw [q] at h
      rintro v σ' H' _ r
      dsimp only at h
      cases qe : e'[0]? with
      | none => rw [qe] at h; exact h.elim
      | some oe =>
        cases oe with
        | none => rw [qe] at h; exact h.elim
        | some de =>
          cases de with
          | lst row' =>
            rw [qe] at h
            rcases r with ⟨F', rt, rs, h1, l, k, n, o⟩ | ⟨hkr, F', rt, i, hif, h1, l, k⟩ | ⟨F', rt, i, hi0, h1, l, k⟩
            · obtain ⟨vr', a1, a2, a3, a4⟩ := rowOf l h0 hst qe
              exact h v H' F' rs vr' h1 l.fr.sub (fun b u z hb => l.fr.keep b u z fun m => hb (List.mem_singleton.mp m)) (l.fr.frz0 rfl) a1 a2 a3 k n fun p hp => (o p hp).2.1
            rotate_left
            · obtain ⟨vr', a1, a2, a3, a4⟩ := rowOf l h0 hst qe
              exact h v H' F' (rt i) vr' h1 l.fr.sub (fun b u z hb => l.fr.keep b u z fun m => hb (List.mem_singleton.mp m)) (l.fr.frz0 rfl) a1 a2 a3 k (l.nd i) fun q hq => by
                rcases l.own i q hq with z | z
                · exact z
                · exact absurd (show p ∈ rt i by rw [← List.mem_singleton.mp z.1]; exact hq) fun m => l.dj 0 i p (fun z => hi0 (by rw [← z]; exact .head _)) a4 m
            · subst hkr
              obtain ⟨vr', a1, a2, a3, a4⟩ := rowOf l h0 hst qe
              have hn : ∀ q ∈ rt i, F' q = none := fun q hq => (l.none hq).1
              have hnp : p ∉ rt i := fun m => l.dj 0 i p (fun z => hif.1 (by rw [← z]; exact .head _)) a4 m
              have ho : ∀ q ∈ rt i, H q = none := fun q hq => by
                rcases l.own i q hq with z | z
                · exact z
                · exact absurd (by rw [← List.mem_singleton.mp z.1]; exact hq) hnp
              have fr2 := l.fr.freeze hn (fun p hp => .inl (ho p hp))
              exact h v H' (frz F' H' (rt i)) [] vr' (h1.trans (frz_of hn)) fr2.sub (fun b u z hb => fr2.keep b u z fun m => hb (List.mem_singleton.mp m)) (fr2.frz0 rfl) a1 (by rw [frz_out hnp]; exact a2) (a3.mono (frz_of hn)) ⟨RepK.toRep (frz_of hn) hif.2 k fun q hq => frz_in hq, rfl⟩ .nil fun q hq => by cases hq
          | _ => rw [qe] at h; exact h.elim
    | nx e' =>
      rw [q] at h
      intro σ' F' rt' H' _ h1 l
      dsimp only at h
      cases qe : e'[0]? with
      | none => rw [qe] at h; exact h.elim
      | some oe =>
        cases oe with
        | none => rw [qe] at h; exact h.elim
        | some de =>
          cases de with
          | lst row' =>
            rw [qe] at h
            obtain ⟨vr', a1, a2, a3, a4⟩ := rowOf l h0 hst qe
            exact h .non H' F' [] vr' h1 l.fr.sub (fun b u z hb => l.fr.keep b u z fun m => hb (List.mem_singleton.mp m)) (l.fr.frz0 rfl) a1 a2 a3 (RepK.flat_of rfl Rep.non) .nil fun p hp => by cases hp
          | _ => rw [qe] at h; exact h.elim
    | exc c fs => rw [q] at h; exact h.elim
    | bk e' => rw [q] at h; exact h.elim
    | ct e' => rw [q] at h; exact h.elim
    | stk => rw [q] at h; exact h.elim

/-! ### callees -/
structure CalP (P : Program) (w : World) (K : PySem.W.Frag) (mg : Str → Option Value) (base : Heap) (k : Nat) (x : Str) (n : Nat) (kr : Kd) (den : List D → FR) : Prop where
  ex : ∃ (f : Addr) (fd : FuncData) (ps : List Str), FnOk P w K mg base (L2.CX P w) k f fd ps (spP ⟨K, mg⟩ n kr den) ∧ mg x = some (.ref f) ∧ PySem.W.keepIn K (.ref f) = true ∧ Binds K fd ps []
structure CalR (P : Program) (w : World) (K : PySem.W.Frag) (mg : Str → Option Value) (base : Heap) (k : Nat) (x : Str) (n : Nat) (kr : Kd) (den : List D → List D → FRr) : Prop where
  ex : ∃ (f : Addr) (fd : FuncData) (ps : List Str), FnOk P w K mg base (L2.CX P w) k f fd ps (spR ⟨K, mg⟩ n kr den) ∧ mg x = some (.ref f) ∧ PySem.W.keepIn K (.ref f) = true ∧ Binds K fd ps []
end
section
variable {X : Cx} {io : List Nat} {E : WX} {mk : List Kd} {W : Kx} {g : Gh} {F F' H H' : Hp} {rt : Nat → List Addr} {σ : L2.St}
def mCall (den : List D → FR) (ms : M (List D)) : M D := fun e => (ms e).bind fun ds e1 => match den ds with
  | .ok d => .ok d e1
  | .exc c fs => .exc c fs
  | .stk => .stk
theorem Fr3.call (f : Fr3 g F H) (h2 : Same F' H') (h3 : Same H H') (h1 : Same F F') (h4 : ∀ b o, F' b = some o → F b = some o ∨ H b = none) : Fr3 g F' H' where
  sub := h2
  keep := fun b o h hb => h3 b o (f.keep b o h hb)
  frz := fun b o h => by
    rcases h4 b o h with z | z
    · exact f.frz b o z
    · exact .inr (.inl (f.old z))
  f0 := f.f0.trans h1
  wr := fun q hq => by obtain ⟨o, e⟩ := f.wr q hq; exact ⟨o, h3 q o e⟩
theorem Rl.call {e : Env3} (l : Rl W io g F mk e rt σ H) (h1 : Same F F') (h2 : Same F' H') (h3 : Same H H') (h4 : ∀ b o, F' b = some o → F b = some o ∨ H b = Option.none) : Rl W io g F' mk e rt σ H' :=
  l.grow h1 (l.fr.call h2 h3 h1 h4) fun i p hp => by
    obtain ⟨a, o, b⟩ := l.none hp
    refine ⟨by rw [b]; exact h3 p o b, ?_⟩
    cases q : F' p with
    | none => rfl
    | some u =>
      rcases h4 p u q with z | z
      · rw [a] at z; cases z
      · rw [b] at z; cases z
theorem callP_of {n : Nat} {kr : Kd} {den : List D → FR} {ms : M (List D)} {os : List Op3} (ho : allEx os = true) (hn : os.length = n) (Q : VK) (h : tE W io E mk (mCall den ms) kr σ H Q) : tCallSD (spP W n kr den) [] (fun σ c d H => E c d σ H) (tAs W io E mk ms os) σ H Q := by
  obtain ⟨g, F, e, rt, l, h⟩ := h
  refine ⟨g, F, e, rt, l, ?_⟩
  unfold mCall at h
  cases q : ms e with
  | exc c fs => rw [q] at h; exact h
  | stk => rw [q] at h; exact h
  | ok ds e1 =>
    rw [q] at h
    intro vs F1 rt1 H1 s1 l1 a1
    refine ⟨F1, ds, l1.fr.sub, by rw [List.append_nil]; exact atOs_ex a1 ho, by rw [a1.len.1, hn], ?_⟩
    simp only [R.bind_ok] at h
    cases q2 : den ds with
    | ok d =>
      rw [q2] at h
      intro v H' F' rs b1 b2 b3 b4 k nd o
      refine h v H' ⟨F', rt1, rs, s1.trans b1, l1.call b1 b2 b3 b4, k, nd, fun p hp => ⟨fun i m => ?_, l1.fr.old (o p hp), fun m => ?_⟩⟩
      · obtain ⟨_, u, z⟩ := l1.none m
        rw [o p hp] at z; cases z
      · obtain ⟨u, z⟩ := l1.fr.wr p m
        rw [o p hp] at z; cases z
    | exc c fs =>
      rw [q2] at h
      intro C a H' F' ws hC b1 b2 b3 b4 hx rx
      exact h C a σ H' F' ws hC rfl (s1.trans b1) (l1.fr.call b2 b3 b1 b4) hx rx
    | stk => rw [q2] at h; exact h
theorem passAt' {X : Cx} {W : WX} (tk : Takes X W) : ∀ σ, PassesAt (L2.CX X.prog X.w) X σ (fun c d H => W c d σ H) := fun σ => passAt tk σ
variable {x : Str} {p pos : Pos} {e0 : Expr} {es : List Expr} {n k j : Nat} {kr : Kd} {ms : M (List D)} {os : List Op3}
theorem ev_call {den : List D → FR} (c : CalP X.prog X.w X.K X.mg X.base k x n kr den) (hr : Room j X.A) (tk : Takes X E) (hg : Gl X x) (ha : AV X io E mk (e0 :: es) ms os) (hk : k ≤ j := by decide) (ho : allEx os = true := by rfl) (hn : os.length = n := by rfl) (hdb : (x == ("__debug__" : Str)) = false := by decide)
    (he : starEach (e0 :: es) X.env = (false, eval e0 X.env) :: starEach es X.env := by rfl) (hpl : (backTo pos (starEach es X.env)).any (·.1) = false := by rfl) : EV X io E mk (.Call (.Name x p) (e0 :: es) [] pos) (mCall den ms) kr := by
  obtain ⟨f, fd, ps, F, hm, kp, b⟩ := c.ex
  exact (pe_callSD (E := fun σ c d H => E c d σ H) F (hr.mono hk) hg hm kp b .nil (passAt' tk) ha hdb he hpl).imp fun σ H Q h => callP_of (W := kx X) ho hn Q h
def mCallR (i : Nat) (den : List D → List D → FRr) (ms : M (List D)) : M D := fun e => (mVar i e).bind fun _ e => (ms e).bind fun ds e1 => match e1[i]? with
  | some (some (D.lst row)) => (match den row ds with
    | .ok d row' => .ok d (e1.set i (some (.lst row')))
    | .stk => .stk)
  | _ => .stk
/-- a slot's own list has changed -/
theorem Rl.turn {e : Env3} {i : Nat} {p : Addr} {row' : List D} {vr' : List V} (l : Rl W io g F mk e rt σ H) (hi : mk.getD i .fr = .own .fr) (hp : σ[i]? = some (some (.ref p))) (hr : rt i = [p]) (hl : i < e.length) (h1 : Same F F') (h2 : Same F' H') (h3 : ∀ b o, H b = some o → b ≠ p → H' b = some o)
    (h4 : ∀ b o, F' b = some o → F b = some o ∨ H b = Option.none) (a1 : H' p = some (.lst vr')) (a2 : F' p = Option.none) (a3 : RepL W F' row' vr') : Rl W io g F' mk (e.set i (some (.lst row'))) rt σ H' := by
  have pm : p ∈ rt i := by rw [hr]; exact .head _
  have st : ∀ {j q}, q ∈ rt j → j ≠ i → H' q = H q ∧ F' q = Option.none := fun {j q} hq hj => by
    obtain ⟨b1, o, b2⟩ := l.none hq
    refine ⟨by rw [b2]; exact h3 q o b2 fun z => l.dj i j p (Ne.symm hj) pm (z ▸ hq), ?_⟩
    cases qf : F' q with
    | none => rfl
    | some u =>
      rcases h4 q u qf with z | z
      · rw [b1] at z; cases z
      · rw [b2] at z; cases z
  refine ⟨⟨h2, fun b o h hb => h3 b o (l.fr.keep b o h hb) fun z => ?_, fun b o h => ?_, l.fr.f0.trans h1, fun q hq => ?_⟩, by rw [List.length_set]; exact l.len, fun j d h => ?_, fun j h => ?_, l.nd, l.dj, l.own, l.pin⟩
  · subst z
    rcases l.own i b pm with z | z
    · rw [h] at z; cases z
    · exact hb z.1
  · rcases h4 b o h with z | z
    · exact l.fr.frz b o z
    · exact .inr (.inl (l.fr.old z))
  · by_cases hqp : q = p
    · subst hqp; exact ⟨_, a1⟩
    · obtain ⟨o, z⟩ := l.fr.wr q hq
      exact ⟨o, h3 q o z hqp⟩
  · by_cases hj : j = i
    · subst hj
      rw [List.getElem?_set_self hl] at h
      cases h
      refine ⟨.ref p, hp, ?_⟩
      rw [hi, hr]
      simp only [RepK]
      exact ⟨p, vr', [], rfl, a1, a2, (repKs_fr (W := W) (H := H')).mpr ⟨a3, rfl⟩, rfl⟩
    · rw [List.getElem?_set_ne (Ne.symm hj)] at h
      obtain ⟨v, hv, k⟩ := l.var j d h
      exact ⟨v, hv, k.frame h1 fun q hq => st hq hj⟩
  · by_cases hj : j = i
    · subst hj
      exact absurd (List.getElem?_set_self hl) (h _)
    · refine l.emp j fun d z => h d ?_
      rw [List.getElem?_set_ne (Ne.symm hj)]
      exact z
/-- a slot's own list -/
theorem Rl.slot {e : Env3} {i : Nat} {ds : List D} (l : Rl W io g F mk e rt σ H) (hi : mk.getD i .fr = .own .fr) (he : e[i]? = some (some (.lst ds))) : ∃ p vs, σ[i]? = some (some (.ref p)) ∧ H p = some (.lst vs) ∧ F p = Option.none ∧ RepL W F ds vs ∧ rt i = [p] := by
  obtain ⟨v, hv, k⟩ := l.var i _ he
  rw [hi] at k
  simp only [RepK] at k
  obtain ⟨p, vs, qs, e1, e2, e3, rs, e4⟩ := k
  obtain ⟨r1, r2⟩ := (repKs_fr (W := W) (H := H) (F := F)).mp rs
  subst r2 e1
  exact ⟨p, vs, hv, e2, e3, r1, e4⟩
theorem callR_of {n i : Nat} {kr : Kd} {den : List D → List D → FRr} {ms : M (List D)} {os : List Op3} (hi : mk.getD i .fr = .own .fr) (ho : allEx os = true) (hn : os.length = n) (Q : VK) (h : tE W io E mk (mCallR i den ms) kr σ H Q) : tCallSD (spR W n kr den) [] (fun σ c d H => E c d σ H) (tCons (tVar i) (tAs W io E mk ms os)) σ H Q := by
  obtain ⟨g, F, e, rt, l, h⟩ := h
  unfold mCallR mVar at h
  cases h0 : e[i]? with
  | none => rw [h0] at h; exact h.elim
  | some o0 =>
    cases o0 with
    | none => rw [h0] at h; exact h.elim
    | some d0 =>
      rw [h0] at h
      simp only [R.bind_ok] at h
      obtain ⟨v0, hv0, _⟩ := l.var i d0 h0
      refine ⟨v0, hv0, g, F, e, rt, l, ?_⟩
      cases q : ms e with
      | exc c fs => rw [q] at h; exact h
      | stk => rw [q] at h; exact h
      | ok ds e1 =>
        rw [q] at h
        intro vs F1 rt1 H1 s1 l1 a1
        simp only [R.bind_ok] at h
        cases h2 : e1[i]? with
        | none => rw [h2] at h; exact h.elim
        | some o2 =>
          cases o2 with
          | none => rw [h2] at h; exact h.elim
          | some d2 =>
            cases d2 with
            | lst row =>
              rw [h2] at h
              dsimp only at h
              obtain ⟨p, vr, b1, b2, b3, b4, b5⟩ := l1.slot hi h2
              rw [b1] at hv0
              cases hv0
              refine ⟨F1, ds, p, vr, row, vs, l1.fr.sub, by rw [List.append_nil], b2, b3, b4, atOs_ex a1 ho, by rw [a1.len.1, hn], ?_⟩
              cases q2 : den row ds with
              | stk => rw [q2] at h; exact h
              | ok d row' =>
                rw [q2] at h
                intro v H' F' rs vr' c1 c2 c3 c4 c5 c6 c7 k nd o
                have hl : i < e1.length := (List.getElem?_eq_some_iff.mp h2).1
                refine h v H' ⟨F', rt1, rs, s1.trans c1, l1.turn hi b1 b5 hl c1 c2 c3 c4 c5 c6 c7, k, nd, fun q hq => ⟨fun j m => ?_, l1.fr.old (o q hq), fun m => ?_⟩⟩
                · obtain ⟨_, u, z⟩ := l1.none m
                  rw [o q hq] at z; cases z
                · obtain ⟨u, z⟩ := l1.fr.wr q m
                  rw [o q hq] at z; cases z
            | _ => rw [h2] at h; exact h.elim
theorem ev_callR (i : Nat) {y : Str} {py : Pos} {den : List D → List D → FRr} (c : CalR X.prog X.w X.K X.mg X.base k x n kr den) (hr : Room j X.A) (tk : Takes X E) (hg : Gl X x) (hy : PE X (.Name y py) (tVar i)) (ha : AV X io E mk es ms os) (hi : mk.getD i .fr = .own .fr := by rfl) (hk : k ≤ j := by decide) (ho : allEx os = true := by rfl) (hn : os.length = n := by rfl) (hdb : (x == ("__debug__" : Str)) = false := by decide)
    (he : starEach (.Name y py :: es) X.env = (false, eval (.Name y py) X.env) :: starEach es X.env := by rfl) (hpl : (backTo pos (starEach es X.env)).any (·.1) = false := by rfl) : EV X io E mk (.Call (.Name x p) (.Name y py :: es) [] pos) (mCallR i den ms) kr := by
  obtain ⟨f, fd, ps, F, hm, kp, b⟩ := c.ex
  exact (pe_callSD (E := fun σ c d H => E c d σ H) F (hr.mono hk) hg hm kp b .nil (passAt' tk) (pa_cons hy ha he) hdb he hpl).imp fun σ H Q h => callR_of (W := kx X) hi ho hn Q h
end
end L3

namespace L3
open PySem PySem.Spec L2
open PyProof.Rows hiding St

/-! # L3I: the operations -/
section
variable {X : Cx} {io : List Nat} {E : WX} {mk : List Kd} {W : Kx} {g : Gh} {F F' H H' : Hp} {rt : Nat → List Addr} {σ : L2.St} {pos p : Pos}
theorem S_len (l : List Nat) : (S l).length = l.length := by simp [S, Str.length]
theorem S_app (a b : List Nat) : S a ++ S b = S (a ++ b) := by
  show Str.mk (a.toArray ++ b.toArray) = _
  simp [S]
theorem S_inj {a b : List Nat} : S a = S b ↔ a = b := by
  constructor
  · intro h
    have := congrArg (fun z => z.cps.toList) h
    simpa [S] using this
  · intro h; rw [h]
theorem S_cps (a : List Nat) : (S a).cps.toList = a := by simp [S]
theorem RepT.tupR {ds : List D} {v : V} (r : RepT W F H (.tup ds) v) : Rep W F (.tup ds) v := by
  rcases r with r | ⟨_, p, vs, e, _⟩
  · exact r
  all_goals cases e
theorem rep_lst {ds : List D} {v : V} : Rep W F (.lst ds) v ↔ ∃ a vs, v = .ref a ∧ F a = some (.lst vs) ∧ RepL W F ds vs := by simp only [Rep]
theorem rep_tup {ds : List D} {v : V} : Rep W F (.tup ds) v ↔ ∃ a vs, v = .ref a ∧ SqT W.K F a vs ∧ RepL W F ds vs := by simp only [Rep]
abbrev szOk (n : Nat) : Prop := n ≤ sizeLine

/-! ### + - * // % ** -/
def dPlus : D → D → Option D
  | .int i, .int j => some (.int (i + j))
  | .str a, .str b => if szOk (a.length + b.length) then some (.str (a ++ b)) else none
  | .lst a, .lst b => if szOk (a.length + b.length) then some (.lst (a ++ b)) else none
  | .tup a, .tup b => if szOk (a.length + b.length) then some (.tup (a ++ b)) else none
  | _, _ => none
def rPlus (K : PySem.W.Frag) : R2 := fun x y H Q => rI0 (fun i j => .int (i + j)) x y H Q ∨ (∃ i j, x = .str i ∧ y = .str j ∧ i.length + j.length ≤ sizeLine ∧ Q (.str (i ++ j)) H) ∨ rCat x y H Q ∨ rCatA K x y H Q
theorem op_plus : OpR X (binaryOp .Add) (rPlus X.K) := op_add.or (op_add_str.or (op_cat.or op_catA))
theorem pure_plus : PureOp (kx X) (rPlus X.K) dPlus := by
  intro F H x y z vx vy Q hs rx ry hf (hq : PureK _ F H z Q)
  cases x <;> cases y <;> try (simp only [dPlus, reduceCtorEq] at hf; done)
  · simp only [dPlus, Option.some.injEq] at hf
    subst hf
    exact .inl ⟨_, _, rx.int, ry.int, hq.here hs Rep.int⟩
  · simp only [dPlus] at hf
    split at hf
    · rename_i hz
      cases hf
      refine .inr (.inl ⟨_, _, rx.str, ry.str, by rw [S_len, S_len]; exact hz, ?_⟩)
      rw [S_app]
      exact hq.here hs Rep.str
    · cases hf
  · rename_i a b
    simp only [dPlus] at hf
    split at hf
    · rename_i hz
      cases hf
      obtain ⟨p, vs, e1, q1, r1⟩ := rx.tup hs
      obtain ⟨q, ws, e2, q2, r2⟩ := ry.tup hs
      refine .inr (.inr (.inr ⟨p, q, vs, ws, e1, e2, q1, q2, by rw [← r1.length, ← r2.length]; exact hz, fun h0 => ?_, fun h0 h1 => ?_, fun _ _ r hr => hq.tup hs hr (r1.append r2)⟩))
      · subst h0
        have : a = [] := List.length_eq_zero_iff.mp r1.length
        subst this
        rw [← e2]
        exact hq.here hs ry.tupR
      · subst h1
        have : b = [] := List.length_eq_zero_iff.mp r2.length
        subst this
        rw [← e1]
        refine hq.here hs ?_
        rw [List.append_nil]
        exact rx.tupR
    · cases hf
  · simp only [dPlus] at hf
    split at hf
    · rename_i hz
      cases hf
      obtain ⟨p, vs, e1, q1, r1⟩ := rx.lst hs
      obtain ⟨q, ws, e2, q2, r2⟩ := ry.lst hs
      refine .inr (.inr (.inl ⟨p, q, vs, ws, e1, e2, q1, q2, by rw [← r1.length, ← r2.length]; exact hz, fun r hr => ?_⟩))
      exact hq.new hs r _ hr (r1.append r2)
    · cases hf
theorem ev_plus {a b : Expr} {ma mb : M D} {oa ob : Op3} (ha : OV X io E mk a ma oa) (hb : OV X io E mk b mb ob) (ka : opsOk mk oa = true := by rfl) (kb : opsOk mk ob = true := by rfl) : EV X io E mk (.BinOp a .Add b pos) (m2 oa ob dPlus ma mb) .fr := ev_op op_plus pure_plus ha hb ka kb
def dMinus : D → D → Option D
  | .int i, .int j => some (.int (i - j))
  | _, _ => none
theorem pure_I0 {f : D → D → Option D} {gI : Int → Int → V} {gD : Int → Int → D} (hf : ∀ x y z, f x y = some z → ∃ i j, x = .int i ∧ y = .int j ∧ z = gD i j) (hg : ∀ F i j, Rep W F (gD i j) (gI i j)) : PureOp W (rI0 gI) f := by
  intro F H x y z vx vy Q hs rx ry h (hq : PureK _ F H z Q)
  obtain ⟨i, j, rfl, rfl, rfl⟩ := hf x y z h
  exact ⟨_, _, rx.int, ry.int, hq.here hs (hg F i j)⟩
theorem pure_I {f : D → D → Option D} {C : Int → Int → Prop} {gI : Int → Int → V} {gD : Int → Int → D} (hf : ∀ x y z, f x y = some z → ∃ i j, x = .int i ∧ y = .int j ∧ C i j ∧ z = gD i j) (hg : ∀ F i j, Rep W F (gD i j) (gI i j)) : PureOp W (rI C gI) f := by
  intro F H x y z vx vy Q hs rx ry h (hq : PureK _ F H z Q)
  obtain ⟨i, j, rfl, rfl, hc, rfl⟩ := hf x y z h
  exact ⟨_, _, rx.int, ry.int, hc, hq.here hs (hg F i j)⟩
theorem ev_minus {a b : Expr} {ma mb : M D} {oa ob : Op3} (ha : OV X io E mk a ma oa) (hb : OV X io E mk b mb ob) (ka : opsOk mk oa = true := by rfl) (kb : opsOk mk ob = true := by rfl) : EV X io E mk (.BinOp a .Sub b pos) (m2 oa ob dMinus ma mb) .fr :=
  ev_op op_sub (pure_I0 (gD := fun i j => .int (i - j)) (fun x y z h => by
    cases x <;> cases y <;> simp only [dMinus, reduceCtorEq, Option.some.injEq] at h
    exact ⟨_, _, rfl, rfl, h.symm⟩) fun F i j => Rep.int) ha hb ka kb
theorem mul_S (l : List Nat) (n : Int) : Txt.mul (S l) n = S (List.replicate n.toNat l).flatten := by
  unfold Txt.mul
  have hf : ∀ (k : Nat) (acc : List Nat), (List.replicate k (S l).cps).foldl (· ++ ·) acc.toArray = (acc ++ (List.replicate k l).flatten).toArray := by
    intro k
    induction k with
    | zero => intro acc; simp
    | succ k ih =>
      intro acc
      rw [List.replicate_succ, List.foldl_cons, List.replicate_succ, List.flatten_cons]
      have : acc.toArray ++ (S l).cps = (acc ++ l).toArray := by simp [S]
      rw [this, ih, List.append_assoc]
  by_cases h1 : n < 1
  · rw [if_pos h1]
    have : n.toNat = 0 := by omega
    rw [this]; rfl
  · rw [if_neg h1]
    by_cases h2 : (n == 1 || (S l).length == 0) = true
    · rw [if_pos h2]
      rw [Bool.or_eq_true, beq_iff_eq, beq_iff_eq, S_len] at h2
      rcases h2 with h2 | h2
      · rw [h2]; simp
      · have : l = [] := List.length_eq_zero_iff.mp h2
        subst this
        simp
    · rw [if_neg h2]
      have := hf n.toNat []
      rw [show (#[] : Array Nat) = ([] : List Nat).toArray from rfl, this]
      rfl
theorem op_mul_str : OpR X (binaryOp .Mult) (fun x y H Q => ∃ i n, x = .str i ∧ y = .int n ∧ (i.length ≤ 16 ∧ -(2 ^ 63) ≤ n ∧ n ≤ 1048576 ∨ i.length ≤ 1048576 ∧ -(2 ^ 63) ≤ n ∧ n ≤ 16) ∧ Q (.str (Txt.mul i n)) H) := by
  intro pins s σ H x y v u Q I rx ry h
  obtain ⟨i, n, rfl, rfl, hz, q⟩ := h
  obtain ⟨t, rfl⟩ := rx
  obtain ⟨t', rfl⟩ := ry
  have ok : MulOk i n := by
    rcases hz with ⟨h1, h2, h3⟩ | ⟨h1, h2, h3⟩
    · exact mulOk_of 16 1048576 h1 (by omega) h2 (by decide) (by decide)
    · exact mulOk_of 1048576 16 h1 (by omega) h2 (by decide) (by decide)
  exact PySem.SB.mul ok fun t' k => ⟨.str _, H, I.tok _, ⟨_, rfl⟩, q⟩
def mulOkI (i j : Int) : Bool := (decide (-(2 ^ 64) < i) && decide (i < 2 ^ 64)) || (decide (-(2 ^ 64) < j) && decide (j < 2 ^ 64))
def mulOkS (l : Nat) (n : Int) : Bool := (decide (l ≤ 16) && decide (-(2 ^ 63) ≤ n) && decide (n ≤ 1048576)) || (decide (l ≤ 1048576) && decide (-(2 ^ 63) ≤ n) && decide (n ≤ 16))
def mulOkL (l : Nat) (n : Int) : Bool := decide (-(2 ^ 63) ≤ n) && decide (n < 2 ^ 63) && decide (l * n.toNat ≤ sizeLine)
def dTimes : D → D → Option D
  | .int i, .int j => if mulOkI i j = true then some (.int (i * j)) else none
  | .str a, .int n => if mulOkS a.length n = true then some (.str (List.replicate n.toNat a).flatten) else none
  | .lst a, .int n => if mulOkL a.length n = true then some (.lst (List.replicate n.toNat a).flatten) else none
  | .tup a, .int n => if a ≠ [] ∧ 2 ≤ n ∧ n ≤ 1000 ∧ a.length ≤ 1000 then some (.tup (List.replicate n.toNat a).flatten) else none
  | _, _ => none
def rTimes (K : PySem.W.Frag) : R2 := fun x y H Q => rI CMul (fun i j => .int (i * j)) x y H Q ∨ (∃ i n, x = .str i ∧ y = .int n ∧ (i.length ≤ 16 ∧ -(2 ^ 63) ≤ n ∧ n ≤ 1048576 ∨ i.length ≤ 1048576 ∧ -(2 ^ 63) ≤ n ∧ n ≤ 16) ∧ Q (.str (Txt.mul i n)) H) ∨ rRep x y H Q ∨ rRepT K x y H Q
theorem op_times : OpR X (binaryOp .Mult) (rTimes X.K) := op_mul.or (op_mul_str.or (op_rep.or op_repT))
theorem RepL.rep {ds : List D} {vs : List V} (r : RepL W F ds vs) : ∀ k : Nat, RepL W F (List.replicate k ds).flatten (List.replicate k vs).flatten
  | 0 => .nil
  | k + 1 => by
    rw [List.replicate_succ, List.replicate_succ, List.flatten_cons, List.flatten_cons]
    exact r.append (r.rep k)
theorem pure_times : PureOp (kx X) (rTimes X.K) dTimes := by
  intro F H x y z vx vy Q hs rx ry hf (hq : PureK _ F H z Q)
  cases x <;> cases y <;> try (simp only [dTimes, reduceCtorEq] at hf; done)
  · simp only [dTimes] at hf
    split at hf
    · rename_i hz
      cases hf
      refine .inl ⟨_, _, rx.int, ry.int, ?_, hq.here hs Rep.int⟩
      simp only [mulOkI, Bool.or_eq_true, Bool.and_eq_true, decide_eq_true_eq] at hz
      exact hz
    · cases hf
  · simp only [dTimes] at hf
    split at hf
    · rename_i hz
      cases hf
      simp only [mulOkS, Bool.or_eq_true, Bool.and_eq_true, decide_eq_true_eq, and_assoc] at hz
      refine .inr (.inl ⟨_, _, rx.str, ry.int, by rw [S_len]; exact hz, ?_⟩)
      rw [mul_S]
      exact hq.here hs Rep.str
    · cases hf
  · simp only [dTimes] at hf
    split at hf
    · rename_i hz
      cases hf
      obtain ⟨p, vs, e1, q1, r1⟩ := rx.tup hs
      refine .inr (.inr (.inr ⟨p, _, vs, e1, ry.int, q1, fun h => ?_, hz.2.1, hz.2.2.1, by rw [← r1.length]; exact hz.2.2.2, fun r hr => hq.tup hs hr (r1.rep _)⟩))
      subst h
      exact hz.1 (List.length_eq_zero_iff.mp r1.length)
    · cases hf
  · simp only [dTimes] at hf
    split at hf
    · rename_i hz
      cases hf
      simp only [mulOkL, Bool.and_eq_true, decide_eq_true_eq] at hz
      obtain ⟨p, vs, e1, q1, r1⟩ := rx.lst hs
      exact .inr (.inr (.inl ⟨p, _, vs, e1, ry.int, q1, hz.1.1, hz.1.2, by rw [← r1.length]; exact hz.2, fun r hr => hq.new hs r _ hr (r1.rep _)⟩))
    · cases hf
theorem ev_times {a b : Expr} {ma mb : M D} {oa ob : Op3} (ha : OV X io E mk a ma oa) (hb : OV X io E mk b mb ob) (ka : opsOk mk oa = true := by rfl) (kb : opsOk mk ob = true := by rfl) : EV X io E mk (.BinOp a .Mult b pos) (m2 oa ob dTimes ma mb) .fr := ev_op op_times pure_times ha hb ka kb
def dDiv : D → D → Option D
  | .int i, .int j => if 0 < j ∧ j < 1073741824 then some (.int (i / j)) else none
  | _, _ => none
def dMod : D → D → Option D
  | .int i, .int j => if 0 < j then some (.int (i % j)) else none
  | _, _ => none
def dPow : D → D → Option D
  | .int i, .int j => if 0 ≤ j ∧ j ≤ 1000000 ∧ i.natAbs < 2 ^ 64 then some (.int (i ^ j.toNat)) else none
  | _, _ => none
theorem ev_div {a b : Expr} {ma mb : M D} {oa ob : Op3} (ha : OV X io E mk a ma oa) (hb : OV X io E mk b mb ob) (ka : opsOk mk oa = true := by rfl) (kb : opsOk mk ob = true := by rfl) : EV X io E mk (.BinOp a .FloorDiv b pos) (m2 oa ob dDiv ma mb) .fr :=
  ev_op op_fdiv (pure_I (gD := fun i j => .int (i / j)) (fun x y z h => by
    cases x <;> cases y <;> simp only [dDiv, reduceCtorEq] at h
    split at h
    · rename_i hc; exact ⟨_, _, rfl, rfl, hc, (Option.some.inj h).symm⟩
    · cases h) fun F i j => Rep.int) ha hb ka kb
theorem ev_mod {a b : Expr} {ma mb : M D} {oa ob : Op3} (ha : OV X io E mk a ma oa) (hb : OV X io E mk b mb ob) (ka : opsOk mk oa = true := by rfl) (kb : opsOk mk ob = true := by rfl) : EV X io E mk (.BinOp a .Mod b pos) (m2 oa ob dMod ma mb) .fr :=
  ev_op op_mod (pure_I (gD := fun i j => .int (i % j)) (fun x y z h => by
    cases x <;> cases y <;> simp only [dMod, reduceCtorEq] at h
    split at h
    · rename_i hc; exact ⟨_, _, rfl, rfl, hc, (Option.some.inj h).symm⟩
    · cases h) fun F i j => Rep.int) ha hb ka kb
theorem ev_pow {a b : Expr} {ma mb : M D} {oa ob : Op3} (ha : OV X io E mk a ma oa) (hb : OV X io E mk b mb ob) (ka : opsOk mk oa = true := by rfl) (kb : opsOk mk ob = true := by rfl) : EV X io E mk (.BinOp a .Pow b pos) (m2 oa ob dPow ma mb) .fr :=
  ev_op op_pow (pure_I (gD := fun i j => .int (i ^ j.toNat)) (fun x y z h => by
    cases x <;> cases y <;> simp only [dPow, reduceCtorEq] at h
    split at h
    · rename_i hc; exact ⟨_, _, rfl, rfl, hc, (Option.some.inj h).symm⟩
    · cases h) fun F i j => Rep.int) ha hb ka kb
def mNeg (m : M D) : M D := fun e => (m e).bind fun d e1 => match d with
  | .int i => .ok (.int (-i)) e1
  | _ => .stk
theorem ev_neg {a : Expr} {m : M D} (ha : EV X io E mk a m .fr) : EV X io E mk (.UnaryOp .USub a pos) (mNeg m) .fr := (pe_un un_neg ha).imp fun σ H Q h => by
  obtain ⟨g, F, e, rt, l, h⟩ := h
  refine ⟨g, F, e, rt, l, ?_⟩
  unfold mNeg at h
  cases q : m e with
  | exc c fs => rw [q] at h; exact h
  | stk => rw [q] at h; exact h
  | ok d e1 =>
    rw [q] at h
    intro v H' r
    obtain ⟨F1, rt1, rs, h1, l1, k, n, o⟩ := r.ex
    cases d with
    | int i => exact ⟨i, Rep.of_int k.1, h _ H' ⟨F1, rt1, [], h1, l1, ⟨Rep.int, rfl⟩, .nil, fun p hp => by cases hp⟩⟩
    | _ => exact h.elim

/-! ### comparisons -/
def dLt : D → D → Option D
  | .int i, .int j => some (.bl (decide (i < j)))
  | .str a, .str b => some (.bl (decide (a < b)))
  | _, _ => none
def dGt : D → D → Option D
  | .int i, .int j => some (.bl (decide (j < i)))
  | .str a, .str b => some (.bl (decide (b < a)))
  | _, _ => none
def dLe : D → D → Option D
  | .int i, .int j => some (.bl (decide (i ≤ j)))
  | .str a, .str b => some (.bl (!decide (b < a)))
  | _, _ => none
def dGe : D → D → Option D
  | .int i, .int j => some (.bl (decide (j ≤ i)))
  | .str a, .str b => some (.bl (!decide (a < b)))
  | _, _ => none
abbrev rIS (f : Int → Int → Bool) (k : List Nat → List Nat → Bool) : R2 := fun x y H Q => rI0 (fun i j => .bl (f i j)) x y H Q ∨ (∃ i j, x = .str i ∧ y = .str j ∧ Q (.bl (k i.cps.toList j.cps.toList)) H)
theorem pure_IS {f : Int → Int → Bool} {k : List Nat → List Nat → Bool} {d : D → D → Option D} (h1 : ∀ x y z, d x y = some z → (∃ i j, x = .int i ∧ y = .int j ∧ z = .bl (f i j)) ∨ (∃ i j, x = .str i ∧ y = .str j ∧ z = .bl (k i j))) : PureOp W (rIS f k) d := by
  intro F H x y z vx vy Q hs rx ry hf (hq : PureK _ F H z Q)
  rcases h1 x y z hf with ⟨i, j, rfl, rfl, rfl⟩ | ⟨i, j, rfl, rfl, rfl⟩
  · exact .inl ⟨_, _, rx.int, ry.int, hq.here hs Rep.bl⟩
  · refine .inr ⟨_, _, rx.str, ry.str, ?_⟩
    rw [S_cps, S_cps]
    exact hq.here hs Rep.bl
theorem op_ltG : OpR X (compareOp .Lt) (rIS (fun i j => decide (i < j)) fun a b => decide (a < b)) := op_lt.or op_lt_str
theorem op_gtG : OpR X (compareOp .Gt) (rIS (fun i j => decide (j < i)) fun a b => decide (b < a)) := op_gt.or op_gt_str
theorem op_leG : OpR X (compareOp .LtE) (rIS (fun i j => decide (i ≤ j)) fun a b => !decide (b < a)) := op_le.or op_le_str
theorem op_geG : OpR X (compareOp .GtE) (rIS (fun i j => decide (j ≤ i)) fun a b => !decide (a < b)) := op_ge.or op_ge_str
theorem pure_lt : PureOp W (rIS (fun i j => decide (i < j)) fun a b => decide (a < b)) dLt := pure_IS fun x y z h => by
  cases x <;> cases y <;> simp only [dLt, reduceCtorEq, Option.some.injEq] at h
  · exact .inl ⟨_, _, rfl, rfl, h.symm⟩
  · exact .inr ⟨_, _, rfl, rfl, h.symm⟩
theorem pure_gt : PureOp W (rIS (fun i j => decide (j < i)) fun a b => decide (b < a)) dGt := pure_IS fun x y z h => by
  cases x <;> cases y <;> simp only [dGt, reduceCtorEq, Option.some.injEq] at h
  · exact .inl ⟨_, _, rfl, rfl, h.symm⟩
  · exact .inr ⟨_, _, rfl, rfl, h.symm⟩
theorem pure_le : PureOp W (rIS (fun i j => decide (i ≤ j)) fun a b => !decide (b < a)) dLe := pure_IS fun x y z h => by
  cases x <;> cases y <;> simp only [dLe, reduceCtorEq, Option.some.injEq] at h
  · exact .inl ⟨_, _, rfl, rfl, h.symm⟩
  · exact .inr ⟨_, _, rfl, rfl, h.symm⟩
theorem pure_ge : PureOp W (rIS (fun i j => decide (j ≤ i)) fun a b => !decide (a < b)) dGe := pure_IS fun x y z h => by
  cases x <;> cases y <;> simp only [dGe, reduceCtorEq, Option.some.injEq] at h
  · exact .inl ⟨_, _, rfl, rfl, h.symm⟩
  · exact .inr ⟨_, _, rfl, rfl, h.symm⟩
/-! == of data at any depth -/
mutual
def dEqv : D → D → Bool
  | .non, .non => true
  | .bl a, .bl b => a == b
  | .bl a, .int j => (if a then 1 else 0) == j
  | .int i, .bl b => i == (if b then 1 else 0)
  | .int i, .int j => i == j
  | .str x, .str y => x == y
  | .lst xs, .lst ys => dEqvs xs ys
  | .tup xs, .tup ys => dEqvs xs ys
  | _, _ => false
def dEqvs : List D → List D → Bool
  | [], [] => true
  | x :: xs, y :: ys => dEqv x y && dEqvs xs ys
  | _, _ => false
end
mutual
/-- plain data of at most so many storeys -/
def shp : D → Nat → Bool
  | .non, _ => true
  | .bl _, _ => true
  | .int _, _ => true
  | .str s, _ => s.all (· < 0x110000)
  | .lst xs, n + 1 => shps xs n
  | .tup xs, n + 1 => shps xs n
  | _, _ => false
def shps : List D → Nat → Bool
  | [], _ => true
  | x :: xs, n => shp x n && shps xs n
end
mutual
def toPy : D → PyData
  | .non => .none
  | .bl b => .bool b
  | .int i => .int i
  | .str s => .str (S s)
  | .lst xs => .list (toPys xs)
  | .tup xs => .tuple (toPys xs)
  | _ => .none
def toPys : List D → List PyData
  | [] => []
  | x :: xs => toPy x :: toPys xs
end
mutual
theorem shp_dp : ∀ {d : D} {n : Nat} {v : V}, shp d n = true → Rep W H d v → Dp W.K H v (toPy d)
  | .non, n, v, _, r => by rw [show v = .non by simpa [Rep] using r]; exact .non
  | .bl b, n, v, _, r => by rw [Rep.of_bl r]; exact .bl b
  | .int i, n, v, _, r => by rw [Rep.of_int r]; exact .int i
  | .str s, n, v, _, r => by rw [Rep.of_str r]; exact .str _
  | .lst xs, 0, v, h, r => by simp [shp] at h
  | .lst xs, n + 1, v, h, r => by
    rw [rep_lst] at r
    obtain ⟨a, vs, rfl, q, r⟩ := r
    simp only [shp] at h
    exact .lst (SqL.of q) (shps_dp h r)
  | .tup xs, 0, v, h, r => by simp [shp] at h
  | .tup xs, n + 1, v, h, r => by
    rw [rep_tup] at r
    obtain ⟨a, vs, rfl, q, r⟩ := r
    simp only [shp] at h
    exact .tup q (shps_dp h r)
  | .dic _ _, n, v, h, r => by simp [shp] at h
  | .ins _ _ _, n, v, h, r => by simp [shp] at h
  | .scr _, n, v, h, r => by simp [shp] at h
theorem shps_dp : ∀ {ds : List D} {n : Nat} {vs : List V}, shps ds n = true → RepL W H ds vs → DpAll W.K H vs (toPys ds)
  | [], n, vs, _, r => by rw [repL_nil] at r; subst r; exact .nil
  | d :: ds, n, vs, h, r => by
    simp only [RepL] at r
    obtain ⟨v, w, rfl, r1, r2⟩ := r
    simp only [shps, Bool.and_eq_true] at h
    exact .cons (shp_dp h.1 r1) (shps_dp h.2 r2)
end
mutual
theorem shp_ok : ∀ {d : D} {n : Nat}, shp d n = true → (toPy d).canLay0 = true ∧ (toPy d).depth ≤ n
  | .non, n, _ => ⟨rfl, Nat.zero_le _⟩
  | .bl b, n, _ => ⟨rfl, Nat.zero_le _⟩
  | .int i, n, _ => ⟨rfl, Nat.zero_le _⟩
  | .str s, n, h => by
    refine ⟨?_, Nat.zero_le _⟩
    show PyData.strOk (S s) = true
    unfold PyData.strOk
    simp only [shp] at h
    rw [← Array.all_toList]
    simpa using h
  | .lst xs, 0, h => by simp [shp] at h
  | .lst xs, n + 1, h => by
    simp only [shp] at h
    obtain ⟨a, b⟩ := shps_ok h
    exact ⟨a, Nat.succ_le_succ b⟩
  | .tup xs, 0, h => by simp [shp] at h
  | .tup xs, n + 1, h => by
    simp only [shp] at h
    obtain ⟨a, b⟩ := shps_ok h
    exact ⟨a, Nat.succ_le_succ b⟩
  | .dic _ _, n, h => by simp [shp] at h
  | .ins _ _ _, n, h => by simp [shp] at h
  | .scr _, n, h => by simp [shp] at h
theorem shps_ok : ∀ {ds : List D} {n : Nat}, shps ds n = true → PyData.canLayAll0 (toPys ds) = true ∧ PyData.depthAll (toPys ds) ≤ n
  | [], n, _ => ⟨rfl, Nat.zero_le _⟩
  | d :: ds, n, h => by
    simp only [shps, Bool.and_eq_true] at h
    obtain ⟨a, b⟩ := shp_ok h.1
    obtain ⟨c, e⟩ := shps_ok h.2
    exact ⟨by show (_ && _) = true; rw [a, c]; rfl, Nat.max_le.mpr ⟨b, e⟩⟩
end
theorem beq_S (a b : List Nat) : (S a == S b) = (a == b) := by
  rw [Bool.eq_iff_iff]; simp only [beq_iff_eq]; exact S_inj
mutual
theorem eqv_py : ∀ {x y : D} {n k : Nat}, shp x n = true → shp y k = true → PyData.eqv (toPy x) (toPy y) = dEqv x y
  | .non, y, n, k, h1, h2 => by cases y <;> first | rfl | (simp [shp] at h2; done)
  | .bl a, y, n, k, h1, h2 => by cases y <;> first | rfl | (simp [shp] at h2; done)
  | .int i, y, n, k, h1, h2 => by cases y <;> first | rfl | (simp [shp] at h2; done)
  | .str s, y, n, k, h1, h2 => by
    cases y <;> first | rfl | (simp [shp] at h2; done) | skip
    simp only [toPy, PyData.eqv, dEqv, beq_S]
  | .lst xs, y, n, k, h1, h2 => by
    cases y with
    | lst ys =>
      cases n with
      | zero => simp [shp] at h1
      | succ n =>
        cases k with
        | zero => simp [shp] at h2
        | succ k =>
          simp only [shp] at h1 h2
          simp only [toPy, PyData.eqv, dEqv]
          exact eqvs_py h1 h2
    | _ => first | rfl | (simp [shp] at h2; done)
  | .tup xs, y, n, k, h1, h2 => by
    cases y with
    | tup ys =>
      cases n with
      | zero => simp [shp] at h1
      | succ n =>
        cases k with
        | zero => simp [shp] at h2
        | succ k =>
          simp only [shp] at h1 h2
          simp only [toPy, PyData.eqv, dEqv]
          exact eqvs_py h1 h2
    | _ => first | rfl | (simp [shp] at h2; done)
  | .dic _ _, y, n, k, h1, h2 => by simp [shp] at h1
  | .ins _ _ _, y, n, k, h1, h2 => by simp [shp] at h1
  | .scr _, y, n, k, h1, h2 => by simp [shp] at h1
theorem eqvs_py : ∀ {xs ys : List D} {n k : Nat}, shps xs n = true → shps ys k = true → PyData.eqvAll (toPys xs) (toPys ys) = dEqvs xs ys
  | [], [], _, _, _, _ => rfl
  | [], _ :: _, _, _, _, _ => rfl
  | _ :: _, [], _, _, _, _ => rfl
  | x :: xs, y :: ys, n, k, h1, h2 => by
    simp only [shps, Bool.and_eq_true] at h1 h2
    simp only [toPys, PyData.eqvAll, dEqvs]
    rw [eqv_py h1.1 h2.1, eqvs_py h1.2 h2.2]
end
/-- scalars that == tells apart by what they are -/
def dScal : D → D → Option Bool
  | .non, .non => some true
  | .int i, .int j => some (decide (i = j))
  | .bl i, .bl j => some (decide (i = j))
  | .str i, .str j => some (decide (i = j))
  | _, _ => none
def dEq : D → D → Option D := fun x y => match dScal x y with
  | some b => some (.bl b)
  | none => if shp x 64 = true ∧ shp y 64 = true then some (.bl (dEqv x y)) else none
def dNe : D → D → Option D := fun x y => match dScal x y with
  | some b => some (.bl (!b))
  | none => if shp x 64 = true ∧ shp y 64 = true then some (.bl (!dEqv x y)) else none
theorem dScal_h {x y : D} {b : Bool} {vx vy : V} (h : dScal x y = some b) (rx : RepT W F H x vx) (ry : RepT W F H y vy) : scal vx vy = true ∧ decide (vx = vy) = b := by
  cases x <;> cases y <;> simp only [dScal, reduceCtorEq, Option.some.injEq] at h <;> subst h
  · rw [rx.non, ry.non]; exact ⟨rfl, rfl⟩
  · rw [rx.bl, ry.bl]; refine ⟨rfl, ?_⟩; simp
  · rw [rx.int, ry.int]; refine ⟨rfl, ?_⟩; simp
  · rw [rx.str, ry.str]; refine ⟨rfl, ?_⟩; simp only [V.str.injEq, S_inj]
def rEqG (K : PySem.W.Frag) : R2 := fun x y H Q => rEq x y H Q ∨ rEqD K x y H Q
def rNeG (K : PySem.W.Frag) : R2 := fun x y H Q => rNe x y H Q ∨ rNeD K x y H Q
theorem op_eqG (hu : X.A.units + 64 < cLine) : OpR X (compareOp .Eq) (rEqG X.K) := op_eq.or (op_eqD hu)
theorem op_neG (hu : X.A.units + 64 < cLine) : OpR X (compareOp .NotEq) (rNeG X.K) := op_ne.or (op_neD hu)
theorem shp_shaped {d : D} (h : shp d 64 = true) : SeqAt.shaped (toPy d) = true := by
  obtain ⟨a, b⟩ := shp_ok h
  unfold SeqAt.shaped
  rw [a, decide_eq_true b]; rfl
theorem pure_eq : PureOp (kx X) (rEqG X.K) dEq := by
  intro F H x y z vx vy Q hs rx ry hf (hq : PureK _ F H z Q)
  unfold dEq at hf
  cases q : dScal x y with
  | some b =>
    rw [q] at hf
    cases hf
    obtain ⟨a, b⟩ := dScal_h q rx ry
    exact .inl ⟨a, by rw [b]; exact hq.here hs Rep.bl⟩
  | none =>
    rw [q] at hf
    simp only at hf
    split at hf
    · rename_i hc
      cases hf
      exact .inr ⟨toPy x, toPy y, shp_dp hc.1 (rx.deep hs), shp_dp hc.2 (ry.deep hs), shp_shaped hc.1, shp_shaped hc.2, by rw [eqv_py hc.1 hc.2]; exact hq.here hs Rep.bl⟩
    · cases hf
theorem pure_ne : PureOp (kx X) (rNeG X.K) dNe := by
  intro F H x y z vx vy Q hs rx ry hf (hq : PureK _ F H z Q)
  unfold dNe at hf
  cases q : dScal x y with
  | some b =>
    rw [q] at hf
    cases hf
    obtain ⟨a, b⟩ := dScal_h q rx ry
    exact .inl ⟨a, by rw [b]; exact hq.here hs Rep.bl⟩
  | none =>
    rw [q] at hf
    simp only at hf
    split at hf
    · rename_i hc
      cases hf
      exact .inr ⟨toPy x, toPy y, shp_dp hc.1 (rx.deep hs), shp_dp hc.2 (ry.deep hs), shp_shaped hc.1, shp_shaped hc.2, by rw [eqv_py hc.1 hc.2]; exact hq.here hs Rep.bl⟩
    · cases hf
/-- is None -/
def D.isNon : D → Bool
  | .non => true
  | .fz d => d.isNon
  | _ => false
def dIsN : D → D → Option D := fun x y => match y with
  | .non => some (.bl x.isNon)
  | _ => none
def dNotN : D → D → Option D := fun x y => match y with
  | .non => some (.bl (!x.isNon))
  | _ => none
theorem rep_non {x : D} {v : V} (r : RepT W F H x v) : decide (v = .non) = x.isNon := by
  cases x with
  | non => rw [r.non]; rfl
  | fz d =>
    rcases r with r | ⟨_, p, vs, e, _⟩
    · exact rep_non (x := d) (.inl (by simpa only [Rep] using r))
    · cases e
  | nd d =>
    rcases r with r | ⟨_, p, vs, e, _⟩
    · simp only [Rep] at r
      obtain ⟨a, _, _, e, _⟩ := r
      rw [e]; rfl
    · cases e
  | bl _ => rw [r.bl]; rfl
  | int _ => rw [r.int]; rfl
  | str _ => rw [r.str]; rfl
  | dic _ _ =>
    rcases r with r | ⟨_, p, vs, e, e1, _⟩
    · simp only [Rep] at r
      rcases r with ⟨a, _, _, e, _⟩ | ⟨a, _, _, e, _⟩ <;> (rw [e]; rfl)
    · rw [e1]; rfl
  | _ =>
    rcases r with r | ⟨_, p, vs, e, e1, _⟩
    · simp only [Rep] at r
      first
        | (obtain ⟨a, _, e, _⟩ := r; rw [e]; rfl)
        | (obtain ⟨a, e, _⟩ := r; rw [e]; rfl)
        | (obtain ⟨a, _, _, _, e, _⟩ := r; rw [e]; rfl)
    · rw [e1]; rfl
theorem pure_isN : PureOp W (fun x y H Q => y = .non ∧ Q (.bl (decide (x = .non))) H) dIsN := by
  intro F H x y z vx vy Q hs rx ry hf (hq : PureK _ F H z Q)
  cases y <;> simp only [dIsN, reduceCtorEq, Option.some.injEq] at hf
  subst hf
  exact ⟨ry.non, by rw [rep_non rx]; exact hq.here hs Rep.bl⟩
theorem pure_notN : PureOp W (fun x y H Q => y = .non ∧ Q (.bl (!decide (x = .non))) H) dNotN := by
  intro F H x y z vx vy Q hs rx ry hf (hq : PureK _ F H z Q)
  cases y <;> simp only [dNotN, reduceCtorEq, Option.some.injEq] at hf
  subst hf
  exact ⟨ry.non, by rw [rep_non rx]; exact hq.here hs Rep.bl⟩
/-! in, not in: a text's signs; flat things in a list or a tuple -/
def flatD : D → Bool
  | .non => true
  | .bl _ => true
  | .int _ => true
  | .str _ => true
  | _ => false
theorem flat_V {d : D} {v : V} (h : flatD d = true) (r : Rep W F d v) : flatV v = true := by
  cases d <;> first | (simp [flatD] at h; done) | skip
  · rw [show v = .non by simpa [Rep] using r]; rfl
  · rw [Rep.of_bl r]; rfl
  · rw [Rep.of_int r]; rfl
  · rw [Rep.of_str r]; rfl
theorem flat_eqV {d e : D} {v u : V} (h : flatD d = true) (h2 : flatD e = true) (r : Rep W F d v) (q : Rep W F e u) : eqV v u = dEqv d e := by
  cases d <;> first | (simp [flatD] at h; done) | skip
  all_goals (cases e <;> first | (simp [flatD] at h2; done) | skip)
  all_goals (simp only [Rep] at r q; subst r q; first | rfl | (simp only [eqV, dEqv, beq_S]))
theorem flats_V : ∀ {ds : List D} {vs : List V}, ds.all flatD = true → RepL W F ds vs → vs.all flatV = true
  | [], vs, _, r => by rw [repL_nil] at r; subst r; rfl
  | d :: ds, vs, h, r => by
    simp only [RepL] at r
    obtain ⟨v, w, rfl, r1, r2⟩ := r
    rw [List.all_cons, Bool.and_eq_true] at h ⊢
    exact ⟨flat_V h.1 r1, flats_V h.2 r2⟩
theorem flats_in {x : D} {u : V} (hx : flatD x = true) (rx : Rep W F x u) : ∀ {ds : List D} {vs : List V}, ds.all flatD = true → RepL W F ds vs → inV u vs = ds.any fun y => dEqv y x
  | [], vs, _, r => by rw [repL_nil] at r; subst r; rfl
  | d :: ds, vs, h, r => by
    simp only [RepL] at r
    obtain ⟨v, w, rfl, r1, r2⟩ := r
    rw [List.all_cons, Bool.and_eq_true] at h
    have := flats_in hx rx h.2 r2
    unfold inV at this ⊢
    rw [List.any_cons, List.any_cons, this, flat_eqV h.1 hx r1 rx]
theorem any_py {x : D} {k : Nat} (hx : shp x k = true) : ∀ {ds : List D} {n : Nat}, shps ds n = true → ((toPys ds).any fun z => PyData.eqv z (toPy x)) = ds.any fun y => dEqv y x
  | [], _, _ => rfl
  | d :: ds, n, h => by
    simp only [shps, Bool.and_eq_true] at h
    simp only [toPys, List.any_cons]
    rw [eqv_py h.1 hx, any_py hx h.2]
def inB : D → D → Option Bool := fun x y => match y with
  | .str b => (match x with
    | .str [c] => some (decide (c ∈ b))
    | _ => none)
  | .lst ys => if flatD x = true ∧ ys.all flatD = true then some (ys.any fun y => dEqv y x) else if shp x 64 = true ∧ shps ys 63 = true then some (ys.any fun y => dEqv y x) else none
  | .tup ys => if flatD x = true ∧ ys.all flatD = true then some (ys.any fun y => dEqv y x) else if shp x 64 = true ∧ shps ys 63 = true then some (ys.any fun y => dEqv y x) else none
  | _ => none
def dIn : D → D → Option D := fun x y => (inB x y).map .bl
def dNotIn : D → D → Option D := fun x y => (inB x y).map fun b => .bl (!b)
/-- in a tuple of shaped things -/
def rInT (K : PySem.W.Frag) (neg : Bool) : R2 := fun x y H Q => ∃ d ds, Dp K H x d ∧ Dp K H y (.tuple ds) ∧ SeqAt.shaped d = true ∧ SeqAt.shaped (.tuple ds) = true ∧ Q (.bl (if neg then !ds.any fun z => PyData.eqv z d else ds.any fun z => PyData.eqv z d)) H
theorem op_inT (hu : X.A.units + 65 < cLine) : OpR X (compareOp .In) (rInT X.K false) := by
  rintro pins s σ H x y v u Q I rx ry ⟨d, ds, hd, he, sd, se, q⟩
  obtain ⟨_, r1⟩ := Dp.reads I d x v hd rx
  obtain ⟨_, r2⟩ := Dp.reads I _ y u he ry
  refine SeqAt.in_tuple_reads r2 r1 (SeqAt.canLay_of_shaped se) (SeqAt.canLay_of_shaped sd) (room_in_shaped sd hu) ?_
  exact ⟨.bl _, H, I, rfl, q⟩
theorem op_notinT (hu : X.A.units + 65 < cLine) : OpR X (compareOp .NotIn) (rInT X.K true) := by
  rintro pins s σ H x y v u Q I rx ry ⟨d, ds, hd, he, sd, se, q⟩
  obtain ⟨_, r1⟩ := Dp.reads I d x v hd rx
  obtain ⟨_, r2⟩ := Dp.reads I _ y u he ry
  refine SeqAt.notIn_tuple_reads r2 r1 (SeqAt.canLay_of_shaped se) (SeqAt.canLay_of_shaped sd) (room_in_shaped sd hu) ?_
  exact ⟨.bl _, H, I, rfl, q⟩
def rInG (K : PySem.W.Frag) (neg : Bool) : R2 := fun x y H Q => (∃ (c : Nat) (z : Str), x = .str ⟨#[c]⟩ ∧ y = .str z ∧ Q (.bl (if neg then !decide (c ∈ z.cps.toList) else decide (c ∈ z.cps.toList))) H) ∨ rIn K neg x y H Q ∨
  (∃ d ds, Dp K H x d ∧ Dp K H y (.list ds) ∧ SeqAt.shaped d = true ∧ SeqAt.shaped (.list ds) = true ∧ Q (.bl (if neg then !ds.any fun z => PyData.eqv z d else ds.any fun z => PyData.eqv z d)) H) ∨ rInT K neg x y H Q
theorem op_inG (hu : X.A.units + 65 < cLine) : OpR X (compareOp .In) (rInG X.K false) := op_in_sign.or (op_in_seq.or ((op_inD hu).or (op_inT hu)))
theorem op_notinG (hu : X.A.units + 65 < cLine) : OpR X (compareOp .NotIn) (rInG X.K true) := op_notIn_sign.or (op_notIn_seq.or ((op_notInD hu).or (op_notinT hu)))
theorem pure_inB (neg : Bool) : PureOp (kx X) (rInG X.K neg) (fun x y => (inB x y).map fun b => .bl (if neg then !b else b)) := by
  intro F H x y z vx vy Q hs rx ry hf (hq : PureK _ F H z Q)
  obtain ⟨b, hb, rfl⟩ := Option.map_eq_some_iff.mp hf
  cases y <;> simp only [inB, reduceCtorEq] at hb
  · split at hb
    · rename_i c
      cases hb
      refine .inl ⟨c, _, rx.str, ry.str, ?_⟩
      rw [S_cps]
      exact hq.here hs Rep.bl
    · cases hb
  · split at hb
    · rename_i hc
      cases hb
      obtain ⟨a, vs, e, q, r⟩ := rep_tup.mp ry.tupR
      have rx' := rx.deep hs
      have r' := r.mono hs
      refine .inr (.inl ⟨a, vs, e, .inr (sqT_mono hs q), flat_V hc.1 rx', flats_V hc.2 r', ?_⟩)
      rw [flats_in hc.1 rx' hc.2 r']
      exact hq.here hs Rep.bl
    · split at hb
      · rename_i ys _ hc
        cases hb
        obtain ⟨a, vs, e, q, r⟩ := rep_tup.mp ry.tupR
        have hs2 : shp (.tup ys) 64 = true := by simp only [shp]; exact hc.2
        refine .inr (.inr (.inr ⟨toPy x, toPys ys, shp_dp hc.1 (rx.deep hs), ?_, shp_shaped hc.1, shp_shaped (d := .tup ys) hs2, ?_⟩))
        · rw [e]; exact .tup (sqT_mono hs q) (shps_dp hc.2 (r.mono hs))
        · rw [any_py hc.1 hc.2]
          exact hq.here hs Rep.bl
      · cases hb
  · rename_i ys
    obtain ⟨a, vs, e, q, r⟩ := ry.lst hs
    have rx' := rx.deep hs
    have r' := r.mono hs
    split at hb
    · rename_i hc
      cases hb
      refine .inr (.inl ⟨a, vs, e, .inl (SqL.of q), flat_V hc.1 rx', flats_V hc.2 r', ?_⟩)
      rw [flats_in hc.1 rx' hc.2 r']
      exact hq.here hs Rep.bl
    · split at hb
      · rename_i hc
        cases hb
        have hs2 : shp (.lst ys) 64 = true := by simp only [shp]; exact hc.2
        subst e
        refine .inr (.inr (.inl ⟨toPy x, toPys ys, shp_dp hc.1 rx', .lst (SqL.of q) (shps_dp hc.2 r'), shp_shaped hc.1, ?_, ?_⟩))
        · exact shp_shaped (d := .lst ys) hs2
        · rw [any_py hc.1 hc.2]
          exact hq.here hs Rep.bl
      · cases hb
theorem pure_in : PureOp (kx X) (rInG X.K false) dIn := by
  have h := pure_inB (X := X) false
  have e : (fun x y => (inB x y).map fun b => D.bl (if false = true then !b else b)) = dIn := by funext x y; unfold dIn; cases inB x y <;> rfl
  rw [e] at h; exact h
theorem pure_notin : PureOp (kx X) (rInG X.K true) dNotIn := by
  have h := pure_inB (X := X) true
  have e : (fun x y => (inB x y).map fun b => D.bl (if true = true then !b else b)) = dNotIn := by funext x y; unfold dNotIn; cases inB x y <;> rfl
  rw [e] at h; exact h

/-! ### places and cuts -/
def dIx : D → D → Option D := fun x y => match y with
  | .int i => (match x with
    | .lst xs => atI xs i
    | .tup xs => atI xs i
    | .str s => if szOk s.length then (atI s i).map fun c => .str [c] else none
    | .scr ns => (atI ns i).map .int
    | _ => none)
  | _ => none
theorem RepL.atI {ds : List D} {vs : List V} {i : Int} {d : D} (r : RepL W F ds vs) (h : L2.atI ds i = some d) : ∃ v, L2.atI vs i = some v ∧ Rep W F d v := by
  unfold L2.atI at h ⊢
  rw [← r.length]
  cases q : ixN ds.length i with
  | none => rw [q] at h; cases h
  | some j =>
    rw [q] at h
    exact r.get h
theorem atI_map {α β : Type} (f : α → β) (xs : List α) (i : Int) : L2.atI (xs.map f) i = (L2.atI xs i).map f := by
  unfold L2.atI
  rw [List.length_map]
  cases ixN xs.length i with
  | none => rfl
  | some j => simp [List.getElem?_map]
theorem pure_ix : PureOp (kx X) (rIx X.K) dIx := by
  intro F H x y z vx vy Q hs rx ry hf (hq : PureK _ F H z Q)
  cases y <;> simp only [dIx, reduceCtorEq] at hf
  rename_i i
  cases x <;> simp only [reduceCtorEq] at hf
  · rename_i s
    split at hf
    · rename_i hz
      cases q : L2.atI s i with
      | none => rw [q] at hf; cases hf
      | some c =>
        rw [q] at hf
        cases hf
        refine .inr (.inr ⟨S s, i, c, rx.str, ry.int, by rw [S_len]; exact hz, by rw [S_cps]; exact q, ?_⟩)
        exact hq.here hs (Rep.str (b := [c]))
    · cases hf
  · obtain ⟨a, vs, e, q, r⟩ := rep_tup.mp rx.tupR
    obtain ⟨v, hv, rv⟩ := r.atI hf
    exact .inr (.inl ⟨a, vs, i, v, e, ry.int, sqT_mono hs q, hv, hq.here hs rv⟩)
  · obtain ⟨a, vs, e, q, r⟩ := rx.lst hs
    obtain ⟨v, hv, rv⟩ := r.atI hf
    exact .inl ⟨a, vs, i, v, e, ry.int, SqL.of q, hv, hq.here hs rv⟩
  · rename_i ns
    obtain ⟨a, e, q⟩ := rx.scr hs
    cases q2 : L2.atI ns i with
    | none => rw [q2] at hf; cases hf
    | some n =>
      rw [q2] at hf
      cases hf
      exact .inl ⟨a, _, i, .int n, e, ry.int, q, by rw [atI_map, q2]; rfl, hq.here hs Rep.int⟩
def cutD {α : Type} (xs : List α) (lo hi : Option Int) : List α := (xs.drop (HT.sIx xs.length 0 lo)).take (HT.sIx xs.length xs.length hi - HT.sIx xs.length 0 lo)
theorem RepL.cut {ds : List D} {vs : List V} (r : RepL W F ds vs) (lo hi : Option Int) : RepL W F (cutD ds lo hi) (cutV vs lo hi) := by
  unfold cutD cutV
  rw [← r.length]
  exact (r.drop _).take _
theorem cutS_S (s : List Nat) (lo hi : Option Int) : cutS (S s) lo hi = S (cutD s lo hi) := by
  unfold cutS cutD
  rw [S_cps, S_len]
/-- a part of a slice -/
def tOI (W : Kx) (io : List Nat) (E : WX) (mk : List Kd) (m : M (Option Int)) : TO := fun σ H Q =>
  ∃ g F e rt, Rl W io g F mk e rt σ H ∧ match m e with
    | .ok o e' => ∀ F' rt' H', Same F F' → Rl W io g F' mk e' rt' σ H' → Q o H'
    | .exc c fs => Exq W g F E c fs σ
    | .stk => False
def OI (X : Cx) (io : List Nat) (E : WX) (mk : List Kd) (e : Option Expr) (m : M (Option Int)) : Prop := PO X e (tOI (kx X) io E mk m)
theorem _root_.L2.PO.imp {e : Option Expr} {t t' : TO} (h : PO X e t) (w : ∀ σ H Q, t' σ H Q → t σ H Q) : PO X e t' := ⟨fun pins s σ H Q I q => h.run pins s σ H Q I (w σ H Q q)⟩
def mNoI : M (Option Int) := fun e => .ok none e
def mSoI (m : M D) : M (Option Int) := fun e => (m e).bind fun d e1 => match d with
  | .int i => .ok (some i) e1
  | _ => .stk
theorem oi_none : OI X io E mk none mNoI := L2.PO.imp po_none fun σ H Q h => by
  obtain ⟨g, F, e, rt, l, h⟩ := h
  exact h F rt H (Same.refl _) l
theorem oi_some {x : Expr} {m : M D} (hx : EV X io E mk x m .fr) : OI X io E mk (some x) (mSoI m) := L2.PO.imp (po_some hx) fun σ H Q h => by
  obtain ⟨g, F, e, rt, l, h⟩ := h
  refine ⟨g, F, e, rt, l, ?_⟩
  unfold mSoI at h
  cases q : m e with
  | exc c fs => rw [q] at h; exact h
  | stk => rw [q] at h; exact h
  | ok d e1 =>
    rw [q] at h
    intro v H' r
    obtain ⟨F1, rt1, rs, h1, l1, k, n, o⟩ := r.ex
    cases d with
    | int i => exact ⟨i, Rep.of_int k.1, h F1 rt1 H' h1 l1⟩
    | _ => exact h.elim
def dCut (d : D) (lo hi : Option Int) : Option D := match d with
  | .lst xs => some (.lst (cutD xs lo hi))
  | .tup xs => some (.tup (cutD xs lo hi))
  | .str s => if szOk s.length then some (.str (cutD s lo hi)) else none
  | _ => none
def mCut (oa : Op3) (ma : M D) (lo hi : M (Option Int)) : M D := fun e => (ma e).bind fun d e1 => (lo e1).bind fun l e2 => (hi e2).bind fun h e3 => match opd oa d e3 with
  | some x => .opt (dCut x l h) e3
  | none => .stk
def rSlG (K : PySem.W.Frag) : V → Option Int → Option Int → Hp → VK → Prop := fun x lo hi H Q => rSlL K x lo hi H Q ∨ rSlA K x lo hi H Q ∨ rSlS x lo hi H Q
theorem sl_all : SlR X (rSlG X.K) := sl_list.or (sl_tupA.or sl_str)
theorem cut_ok {F H : Hp} {x z : D} {vx : V} {lo hi : Option Int} {Q : VK} (hs : Same F H) (rx : RepT W F H x vx) (hf : dCut x lo hi = some z) (hq : PureK W F H z Q) : rSlG W.K vx lo hi H Q := by
  cases x <;> simp only [dCut, reduceCtorEq] at hf
  · rename_i s
    split at hf
    · rename_i hz
      cases hf
      refine .inr (.inr ⟨S s, rx.str, by rw [S_len]; exact hz, ?_⟩)
      rw [cutS_S]
      exact hq.here hs Rep.str
    · cases hf
  · cases hf
    rename_i xs
    obtain ⟨a, vs, e, q, r⟩ := rep_tup.mp rx.tupR
    refine .inr (.inl ⟨a, vs, e, sqT_mono hs q, fun hc => ?_, fun hc p hp => hq.tup hs hp (r.cut lo hi)⟩)
    have : cutD xs lo hi = xs := by
      unfold cutD
      rw [r.length, hc.1, hc.2, List.drop_zero, ← r.length, Nat.sub_zero, List.take_length]
    rw [this] at hq
    rw [← e]
    exact hq.here hs rx.tupR
  · cases hf
    obtain ⟨a, vs, e, q, r⟩ := rx.lst hs
    exact .inl ⟨a, vs, e, SqL.of q, fun p hp => hq.new hs p _ hp (r.cut lo hi)⟩
theorem ev_cut {a : Expr} {lo hi : Option Expr} {p2 : Pos} {ma : M D} {oa : Op3} {ml mh : M (Option Int)} (ha : OV X io E mk a ma oa) (hl : OI X io E mk lo ml) (hh : OI X io E mk hi mh) (ka : opsOk mk oa = true := by rfl) : EV X io E mk (.Subscript a (.Slice lo hi none p2) pos) (mCut oa ma ml mh) .fr :=
  (pe_slice sl_all ha hl hh).imp fun σ H Q h => by
    obtain ⟨g, F, e, rt, l, h⟩ := h
    refine ⟨g, F, e, rt, l, ?_⟩
    unfold mCut at h
    cases q : ma e with
    | exc c fs => rw [q] at h; exact h
    | stk => rw [q] at h; exact h
    | ok d e1 =>
      rw [q] at h
      rintro v H1 ⟨F1, rt1, s1, l1, a1⟩
      simp only [R.bind_ok] at h
      refine ⟨g, F1, e1, rt1, l1, ?_⟩
      cases q2 : ml e1 with
      | exc c fs => rw [q2] at h; exact Exq.mono s1 h
      | stk => rw [q2] at h; exact h
      | ok lo e2 =>
        rw [q2] at h
        intro F2 rt2 H2 s2 l2
        simp only [R.bind_ok] at h
        refine ⟨g, F2, e2, rt2, l2, ?_⟩
        cases q3 : mh e2 with
        | exc c fs => rw [q3] at h; exact Exq.mono (s1.trans s2) h
        | stk => rw [q3] at h; exact h
        | ok hi e3 =>
          rw [q3] at h
          intro F3 rt3 H3 s3 l3
          simp only [R.bind_ok] at h
          cases q4 : opd oa d e3 with
          | none => rw [q4] at h; exact h.elim
          | some x =>
            rw [q4] at h
            cases q5 : dCut x lo hi with
            | none => simp only [q5] at h; exact h.elim
            | some z =>
              simp only [q5] at h
              exact cut_ok (W := kx X) l3.fr.sub (ResO.use (opsOk.h ka) (a1.mono s2) s3 l3 q4) q5 (l3.pureK fun v H' r => h v H' (r.mono (s1.trans (s2.trans s3))))

/-! ### chains a < b < c -/
def mChain (oa ob oc : Op3) (f k : D → D → Option D) (ma mb mc : M D) : M D := fun e => (ma e).bind fun da e1 => (mb e1).bind fun db e2 =>
  match opd oa da e2, opd ob db e2 with
  | some x, some y => (match f x y with
    | some (.bl true) => (mc e2).bind fun dc e3 => (match opd ob db e3, opd oc dc e3 with
      | some y, some z => .opt (k y z) e3
      | _, _ => .stk)
    | some (.bl false) => .ok (.bl false) e2
    | _ => .stk)
  | _, _ => .stk
theorem chain_of {f k : D → D → Option D} {ma mb mc : M D} {oa ob oc : Op3} {r r' : R2} (hf : PureOp W r f) (hk : PureOp W r' k) (ka : opsOk mk oa = true) (kb : opsOk mk ob = true) (kc : opsOk mk oc = true) (Q : VK)
    (h : tE W io E mk (mChain oa ob oc f k ma mb mc) .fr σ H Q) : tChain r r' (tO W io E mk ma oa) (tO W io E mk mb ob) (tO W io E mk mc oc) σ H Q := by
  obtain ⟨g, F, e, rt, l, h⟩ := h
  refine ⟨g, F, e, rt, l, ?_⟩
  unfold mChain at h
  cases qa : ma e with
  | exc c fs => rw [qa] at h; exact h
  | stk => rw [qa] at h; exact h
  | ok da e1 =>
    rw [qa] at h
    rintro va H1 ⟨F1, rt1, s1, l1, ra⟩
    refine ⟨g, F1, e1, rt1, l1, ?_⟩
    simp only [R.bind_ok] at h
    cases qb : mb e1 with
    | exc c fs => rw [qb] at h; exact Exq.mono s1 h
    | stk => rw [qb] at h; exact h
    | ok db e2 =>
      rw [qb] at h
      rintro vb H2 ⟨F2, rt2, s2, l2, rb⟩
      simp only [R.bind_ok] at h
      cases xa : opd oa da e2 with
      | none => rw [xa] at h; exact h.elim
      | some x =>
        cases xb : opd ob db e2 with
        | none => rw [xa, xb] at h; exact h.elim
        | some y =>
          rw [xa, xb] at h
          dsimp only at h
          cases xf : f x y with
          | none => rw [xf] at h; exact h.elim
          | some z =>
            rw [xf] at h
            have tx := ResO.use (opsOk.h ka) ra s2 l2 xa
            have ty := ResO.use (opsOk.h kb) rb (Same.refl _) l2 xb
            refine hf F2 H2 x y z va vb _ l2.fr.sub tx ty xf fun v F' H' h1 h2 h3 h4 rz => ?_
            have l3 := l2.ext h1 h2 h3 h4
            cases z with
            | bl bb =>
              refine ⟨bb, Rep.of_bl rz, ?_⟩
              cases bb with
              | false =>
                rw [if_neg Bool.false_ne_true]
                exact h _ H' (.fr1 (s1.trans (s2.trans h1)) l3 Rep.bl)
              | true =>
                rw [if_pos rfl]
                refine ⟨g, F', e2, rt2, l3, ?_⟩
                dsimp only at h
                cases qc : mc e2 with
                | exc c fs => rw [qc] at h; exact Exq.mono (s1.trans (s2.trans h1)) h
                | stk => rw [qc] at h; exact h
                | ok dc e3 =>
                  rw [qc] at h
                  rintro vc H4 ⟨F4, rt4, s4, l4, rc⟩
                  simp only [R.bind_ok] at h
                  cases xb2 : opd ob db e3 with
                  | none => rw [xb2] at h; exact h.elim
                  | some y2 =>
                    cases xc : opd oc dc e3 with
                    | none => rw [xb2, xc] at h; exact h.elim
                    | some z2 =>
                      rw [xb2, xc] at h
                      dsimp only at h
                      cases xk : k y2 z2 with
                      | none => rw [xk] at h; exact h.elim
                      | some z3 =>
                        rw [xk] at h
                        have ty2 := ResO.use (opsOk.h kb) (rb.mono (h1.trans s4)) (Same.refl _) l4 xb2
                        have tz := ResO.use (opsOk.h kc) rc (Same.refl _) l4 xc
                        exact hk F4 H4 y2 z2 z3 vb vc Q l4.fr.sub ty2 tz xk fun v F5 H5 g1 g2 g3 g4 rz => h v H5 (.mono (s1.trans (s2.trans (h1.trans s4))) (.fr1 g1 (l4.ext g1 g2 g3 g4) rz))
            | _ => exact h.elim
theorem ev_chain {op op' : CmpOp} {r r' : R2} {a b c : Expr} {f k : D → D → Option D} {ma mb mc : M D} {oa ob oc : Op3} (ho : OpR X (compareOp op) r) (ho' : OpR X (compareOp op') r') (hf : PureOp (kx X) r f) (hk : PureOp (kx X) r' k) (ha : OV X io E mk a ma oa) (hb : OV X io E mk b mb ob) (hc : OV X io E mk c mc oc)
    (ka : opsOk mk oa = true := by rfl) (kb : opsOk mk ob = true := by rfl) (kc : opsOk mk oc = true := by rfl) (hm : lastMarks [op, op'] [b, c] = false := by with_unfolding_all rfl) : EV X io E mk (.Compare a [op, op'] [b, c] pos) (mChain oa ob oc f k ma mb mc) .fr :=
  (pe_chain ho ho' ha hb hc hm).imp fun σ H Q h => chain_of hf hk ka kb kc Q h
theorem tv_chain {op op' : CmpOp} {r r' : R2} {a b c : Expr} {f k : D → D → Option D} {ma mb mc : M D} {oa ob oc : Op3} (ho : OpR X (compareOp op) r) (ho' : OpR X (compareOp op') r') (hf : PureOp (kx X) r f) (hk : PureOp (kx X) r' k) (ha : OV X io E mk a ma oa) (hb : OV X io E mk b mb ob) (hc : OV X io E mk c mc oc)
    (ka : opsOk mk oa = true := by rfl) (kb : opsOk mk ob = true := by rfl) (kc : opsOk mk oc = true := by rfl) (hm : lastMarks [op, op'] [b, c] = false := by with_unfolding_all rfl) : TV X io E mk (.Compare a [op, op'] [b, c] pos) (mB (mChain oa ob oc f k ma mb mc)) :=
  (pt_chain ho ho' ha hb hc hm).imp fun σ H Q h => chain_of (W := kx X) hf hk ka kb kc (fun x H' => ∃ k, x = V.bl k ∧ Q k H') (tB_of Q h)
end
end L3

namespace L3
open PySem PySem.Spec L2
open PyProof.Rows hiding St

/-! # L3J: built-in functions, methods, stores -/
section
variable {X : Cx} {io : List Nat} {E : WX} {mk : List Kd} {kr : Kd} {W : Kx} {g : Gh} {F F' H H' : Hp} {rt : Nat → List Addr} {σ : L2.St} {pos p : Pos}
theorem repTs1 {d : D} {vs : List V} (r : RepTs W F H [d] vs) : ∃ v, vs = [v] ∧ RepT W F H d v := by
  obtain ⟨v, w, e, a, b⟩ := r
  have b : w = [] := b
  subst b
  exact ⟨v, e, a⟩
theorem repTs2 {d e : D} {vs : List V} (r : RepTs W F H [d, e] vs) : ∃ v u, vs = [v, u] ∧ RepT W F H d v ∧ RepT W F H e u := by
  obtain ⟨v, w, e, a, b⟩ := r
  obtain ⟨u, rfl, c⟩ := repTs1 b
  exact ⟨v, u, e, a, c⟩
/-- a function of one thing, of two -/
def f1 (f : D → Option D) : List D → Option D := fun ds => match ds with
  | [d] => f d
  | _ => none
def f2 (f : D → D → Option D) : List D → Option D := fun ds => match ds with
  | [d, e] => f d e
  | _ => none
def f1N (f : D → Option (List D)) : List D → Option (List D) := fun ds => match ds with
  | [d] => f d
  | _ => none
theorem pure1 {r : List V → Hp → VK → Prop} {f : D → Option D} (h : ∀ F H d z v Q, Same F H → RepT W F H d v → f d = some z → PureK W F H z Q → r [v] H Q) : PureFn W r (f1 f) := by
  intro F H ds z vs Q hs rs hf hq
  unfold f1 at hf
  split at hf
  · obtain ⟨v, rfl, a⟩ := repTs1 rs
    exact h F H _ z v Q hs a hf hq
  · cases hf
theorem pure2 {r : List V → Hp → VK → Prop} {f : D → D → Option D} (h : ∀ F H d e z v u Q, Same F H → RepT W F H d v → RepT W F H e u → f d e = some z → PureK W F H z Q → r [v, u] H Q) : PureFn W r (f2 f) := by
  intro F H ds z vs Q hs rs hf hq
  unfold f2 at hf
  split at hf
  · obtain ⟨v, u, rfl, a, b⟩ := repTs2 rs
    exact h F H _ _ z v u Q hs a b hf hq
  · cases hf
theorem new1 {r : List V → Hp → VK → Prop} {f : D → Option (List D)} (h : ∀ F H d zs v Q, Same F H → RepT W F H d v → f d = some zs → NewK W F H zs Q → r [v] H Q) : NewFn W r (f1N f) := by
  intro F H ds zs vs Q hs rs hf hq
  unfold f1N at hf
  split at hf
  · obtain ⟨v, rfl, a⟩ := repTs1 rs
    exact h F H _ zs v Q hs a hf hq
  · cases hf

/-! ### len, int, min, max, list, tuple -/
def dLen : D → Option D
  | .lst xs => some (.int xs.length)
  | .tup xs => some (.int xs.length)
  | .scr xs => some (.int xs.length)
  | .str s => if szOk s.length then some (.int s.length) else none
  | _ => none
theorem pure_len : PureFn (kx X) (fun xs H Q => ∃ x n, xs = [x] ∧ LenV X.K x H n ∧ Q (.int n) H) (f1 dLen) := pure1 fun F H d z v Q hs r hf hq => by
  cases d <;> simp only [dLen, reduceCtorEq, Option.some.injEq] at hf
  · rename_i s
    split at hf
    · rename_i hz
      cases hf
      refine ⟨v, s.length, rfl, ?_, hq.here hs Rep.int⟩
      rw [r.str]
      exact ⟨by rw [S_len]; exact hz, (S_len s).symm⟩
    · cases hf
  · subst hf
    obtain ⟨a, vs, e, q, l⟩ := rep_tup.mp r.tupR
    exact ⟨v, _, rfl, by rw [e]; exact .inr ⟨vs, sqT_mono hs q, l.length⟩, hq.here hs Rep.int⟩
  · subst hf
    obtain ⟨a, vs, e, q, l⟩ := r.lst hs
    exact ⟨v, _, rfl, by rw [e]; exact .inl ⟨vs, SqL.of q, l.length⟩, hq.here hs Rep.int⟩
  · subst hf
    obtain ⟨a, e, q⟩ := r.scr hs
    exact ⟨v, _, rfl, by rw [e]; exact .inl ⟨_, q, by simp⟩, hq.here hs Rep.int⟩
def dInt : D → Option D
  | .int i => some (.int i)
  | .bl b => some (.int (if b then 1 else 0))
  | _ => none
theorem pure_int : PureFn (kx X) (fun xs H Q => (∃ i, xs = [.int i] ∧ Q (.int i) H) ∨ ∃ k, xs = [.bl k] ∧ Q (.int (if k then 1 else 0)) H) (f1 dInt) := pure1 fun F H d z v Q hs r hf hq => by
  cases d <;> simp only [dInt, reduceCtorEq, Option.some.injEq] at hf
  · subst hf
    exact .inr ⟨_, by rw [r.bl], hq.here hs Rep.int⟩
  · subst hf
    exact .inl ⟨_, by rw [r.int], hq.here hs Rep.int⟩
def dMin2 : D → D → Option D
  | .int i, .int j => some (.int (if j < i then j else i))
  | _, _ => none
def dMax2 : D → D → Option D
  | .int i, .int j => some (.int (if j > i then j else i))
  | _, _ => none
theorem pure_min2 : PureFn (kx X) (fun xs H Q => ∃ i j, xs = [.int i, .int j] ∧ Q (.int (if j < i then j else i)) H) (f2 dMin2) := pure2 fun F H d e z v u Q hs r q hf hq => by
  cases d <;> cases e <;> simp only [dMin2, reduceCtorEq, Option.some.injEq] at hf
  subst hf
  exact ⟨_, _, by rw [r.int, q.int], hq.here hs Rep.int⟩
theorem pure_max2 : PureFn (kx X) (fun xs H Q => ∃ i j, xs = [.int i, .int j] ∧ Q (.int (if j > i then j else i)) H) (f2 dMax2) := pure2 fun F H d e z v u Q hs r q hf hq => by
  cases d <;> cases e <;> simp only [dMax2, reduceCtorEq, Option.some.injEq] at hf
  subst hf
  exact ⟨_, _, by rw [r.int, q.int], hq.here hs Rep.int⟩
def dItems : D → Option (List D)
  | .lst xs => some xs
  | .tup xs => some xs
  | _ => none
theorem new_list : NewFn (kx X) (fun xs H Q => ∃ p ys, xs = [.ref p] ∧ (SqL X.K H p ys ∨ SqT X.K H p ys) ∧ ∀ l, H l = none → Q (.ref l) (upd H l (.lst ys))) (f1N dItems) := new1 fun F H d zs v Q hs r hf hq => by
  cases d <;> simp only [dItems, reduceCtorEq, Option.some.injEq] at hf
  · subst hf
    obtain ⟨a, vs, e, q, l⟩ := rep_tup.mp r.tupR
    exact ⟨a, vs, by rw [e], .inr (sqT_mono hs q), fun l' hl => hq l' vs hl l⟩
  · subst hf
    obtain ⟨a, vs, e, q, l⟩ := r.lst hs
    exact ⟨a, vs, by rw [e], .inl (SqL.of q), fun l' hl => hq l' vs hl l⟩
def dTuple : D → Option D := fun d => (dItems d).map .tup
theorem pure_tuple : PureFn (kx X) (fun xs H Q => ∃ p ys, xs = [.ref p] ∧ ((SqL X.K H p ys ∧ ∀ l, H l = none → Q (.ref l) (upd H l (.tup ys))) ∨ (SqT X.K H p ys ∧ Q (.ref p) H))) (f1 dTuple) := pure1 fun F H d z v Q hs r hf hq => by
  cases d <;> simp only [dTuple, dItems, Option.map_none, Option.map_some, reduceCtorEq, Option.some.injEq] at hf
  · subst hf
    obtain ⟨a, vs, e, q, l⟩ := rep_tup.mp r.tupR
    exact ⟨a, vs, by rw [e], .inr ⟨sqT_mono hs q, by rw [← e]; exact hq.here hs r.tupR⟩⟩
  · subst hf
    obtain ⟨a, vs, e, q, l⟩ := r.lst hs
    exact ⟨a, vs, by rw [e], .inl ⟨SqL.of q, fun l' hl => hq.tup hs hl l⟩⟩

/-! ### all, any, sum, the least and the greatest of a list -/
def blsOf : List D → Option (List Bool)
  | [] => some []
  | .bl b :: r => (blsOf r).map (b :: ·)
  | _ => none
def intsOf : List D → Option (List Int)
  | [] => some []
  | .int b :: r => (intsOf r).map (b :: ·)
  | _ => none
def strsOf : List D → Option (List (List Nat))
  | [] => some []
  | .str b :: r => (strsOf r).map (b :: ·)
  | _ => none
theorem blsOf_h : ∀ {ds : List D} {bs : List Bool} {vs : List V}, blsOf ds = some bs → RepL W F ds vs → vs = bs.map V.bl
  | [], bs, vs, h, r => by simp only [blsOf, Option.some.injEq] at h; subst h; rw [repL_nil] at r; rw [r]; rfl
  | .bl b :: ds, bs, vs, h, r => by
    simp only [blsOf, Option.map_eq_some_iff] at h
    obtain ⟨cs, h, rfl⟩ := h
    simp only [RepL] at r
    obtain ⟨v, w, rfl, r1, r2⟩ := r
    rw [Rep.of_bl r1, blsOf_h h r2]; rfl
  | .non :: _, _, _, h, _ => by simp [blsOf] at h
  | .int _ :: _, _, _, h, _ => by simp [blsOf] at h
  | .str _ :: _, _, _, h, _ => by simp [blsOf] at h
  | .tup _ :: _, _, _, h, _ => by simp [blsOf] at h
  | .lst _ :: _, _, _, h, _ => by simp [blsOf] at h
  | .dic _ _ :: _, _, _, h, _ => by simp [blsOf] at h
  | .ins _ _ _ :: _, _, _, h, _ => by simp [blsOf] at h
  | .scr _ :: _, _, _, h, _ => by simp [blsOf] at h
theorem intsOf_h : ∀ {ds : List D} {bs : List Int} {vs : List V}, intsOf ds = some bs → RepL W F ds vs → vs = bs.map V.int
  | [], bs, vs, h, r => by simp only [intsOf, Option.some.injEq] at h; subst h; rw [repL_nil] at r; rw [r]; rfl
  | .int b :: ds, bs, vs, h, r => by
    simp only [intsOf, Option.map_eq_some_iff] at h
    obtain ⟨cs, h, rfl⟩ := h
    simp only [RepL] at r
    obtain ⟨v, w, rfl, r1, r2⟩ := r
    rw [Rep.of_int r1, intsOf_h h r2]; rfl
  | .non :: _, _, _, h, _ => by simp [intsOf] at h
  | .bl _ :: _, _, _, h, _ => by simp [intsOf] at h
  | .str _ :: _, _, _, h, _ => by simp [intsOf] at h
  | .tup _ :: _, _, _, h, _ => by simp [intsOf] at h
  | .lst _ :: _, _, _, h, _ => by simp [intsOf] at h
  | .dic _ _ :: _, _, _, h, _ => by simp [intsOf] at h
  | .ins _ _ _ :: _, _, _, h, _ => by simp [intsOf] at h
  | .scr _ :: _, _, _, h, _ => by simp [intsOf] at h
theorem strsOf_h : ∀ {ds : List D} {bs : List (List Nat)} {vs : List V}, strsOf ds = some bs → RepL W F ds vs → vs = bs.map fun s => V.str (S s)
  | [], bs, vs, h, r => by simp only [strsOf, Option.some.injEq] at h; subst h; rw [repL_nil] at r; rw [r]; rfl
  | .str b :: ds, bs, vs, h, r => by
    simp only [strsOf, Option.map_eq_some_iff] at h
    obtain ⟨cs, h, rfl⟩ := h
    simp only [RepL] at r
    obtain ⟨v, w, rfl, r1, r2⟩ := r
    rw [Rep.of_str r1, strsOf_h h r2]; rfl
  | .non :: _, _, _, h, _ => by simp [strsOf] at h
  | .bl _ :: _, _, _, h, _ => by simp [strsOf] at h
  | .int _ :: _, _, _, h, _ => by simp [strsOf] at h
  | .tup _ :: _, _, _, h, _ => by simp [strsOf] at h
  | .lst _ :: _, _, _, h, _ => by simp [strsOf] at h
  | .dic _ _ :: _, _, _, h, _ => by simp [strsOf] at h
  | .ins _ _ _ :: _, _, _, h, _ => by simp [strsOf] at h
  | .scr _ :: _, _, _, h, _ => by simp [strsOf] at h
def dAll : D → Option D := fun d => match d with
  | .lst xs => (blsOf xs).map fun bs => .bl (bs.all id)
  | _ => none
def dAny : D → Option D := fun d => match d with
  | .lst xs => (blsOf xs).map fun bs => .bl (bs.any id)
  | _ => none
def dSum : D → Option D := fun d => match d with
  | .lst xs => (intsOf xs).map fun bs => .int bs.sum
  | _ => none
def minI : List Int → Option Int
  | [] => none
  | x :: r => some (r.foldl (fun a b => if b < a then b else a) x)
def maxI : List Int → Option Int
  | [] => none
  | x :: r => some (r.foldl (fun a b => if a < b then b else a) x)
def dMin : D → Option D := fun d => match d with
  | .lst xs => (intsOf xs).bind fun bs => (minI bs).map .int
  | _ => none
def dMax : D → Option D := fun d => match d with
  | .lst xs => (intsOf xs).bind fun bs => (maxI bs).map .int
  | _ => none
theorem minI_foldl : ∀ (r : List Int) (x : Int), (r.foldl (fun a b => if b < a then b else a) x ∈ x :: r) ∧ ∀ y, y ∈ x :: r → r.foldl (fun a b => if b < a then b else a) x ≤ y
  | [], x => ⟨List.mem_cons_self, fun y hy => by simp at hy; subst hy; exact Int.le_refl _⟩
  | z :: r, x => by
    obtain ⟨h1, h2⟩ := minI_foldl r (if z < x then z else x)
    rw [List.foldl_cons]
    refine ⟨?_, fun y hy => ?_⟩
    · rcases List.mem_cons.mp h1 with h | h
      · rw [h]; split <;> simp
      · exact List.mem_cons_of_mem _ (List.mem_cons_of_mem _ h)
    · have h3 := h2 _ List.mem_cons_self
      have h4 : (if z < x then z else x) ≤ x ∧ (if z < x then z else x) ≤ z := by split <;> omega
      rcases List.mem_cons.mp hy with h | h
      · rw [h]; exact Int.le_trans h3 h4.1
      · rcases List.mem_cons.mp h with h | h
        · rw [h]; exact Int.le_trans h3 h4.2
        · exact h2 y (List.mem_cons_of_mem _ h)
theorem maxI_foldl : ∀ (r : List Int) (x : Int), (r.foldl (fun a b => if a < b then b else a) x ∈ x :: r) ∧ ∀ y, y ∈ x :: r → y ≤ r.foldl (fun a b => if a < b then b else a) x
  | [], x => ⟨List.mem_cons_self, fun y hy => by simp at hy; subst hy; exact Int.le_refl _⟩
  | z :: r, x => by
    obtain ⟨h1, h2⟩ := maxI_foldl r (if x < z then z else x)
    rw [List.foldl_cons]
    refine ⟨?_, fun y hy => ?_⟩
    · rcases List.mem_cons.mp h1 with h | h
      · rw [h]; split <;> simp
      · exact List.mem_cons_of_mem _ (List.mem_cons_of_mem _ h)
    · have h3 := h2 _ List.mem_cons_self
      have h4 : x ≤ (if x < z then z else x) ∧ z ≤ (if x < z then z else x) := by split <;> omega
      rcases List.mem_cons.mp hy with h | h
      · rw [h]; exact Int.le_trans h4.1 h3
      · rcases List.mem_cons.mp h with h | h
        · rw [h]; exact Int.le_trans h4.2 h3
        · exact h2 y (List.mem_cons_of_mem _ h)
theorem pure_sum : PureFn (kx X) (rSum X.K) (f1 dSum) := pure1 fun F H d z v Q hs r hf hq => by
  cases d <;> simp only [dSum, reduceCtorEq, Option.map_eq_some_iff] at hf
  obtain ⟨bs, hb, rfl⟩ := hf
  obtain ⟨a, vs, e, q, l⟩ := r.lst hs
  have := intsOf_h hb l
  subst this
  exact ⟨a, bs, by rw [e], SqL.of q, hq.here hs Rep.int⟩
theorem pure_min : PureFn (kx X) (rMin X.K) (f1 dMin) := pure1 fun F H d z v Q hs r hf hq => by
  cases d <;> simp only [dMin, reduceCtorEq, Option.bind_eq_some_iff, Option.map_eq_some_iff] at hf
  obtain ⟨bs, hb, m, hm, rfl⟩ := hf
  obtain ⟨a, vs, e, q, l⟩ := r.lst hs
  have := intsOf_h hb l
  subst this
  cases bs with
  | nil => simp [minI] at hm
  | cons x bs =>
    simp only [minI, Option.some.injEq] at hm
    obtain ⟨h1, h2⟩ := minI_foldl bs x
    rw [hm] at h1 h2
    refine ⟨a, x :: bs, by rw [e], SqL.of q, by simp, fun k hk hl => ?_⟩
    have : k = m := by have := hl m h1; have := h2 k hk; omega
    subst this
    exact hq.here hs Rep.int
theorem pure_max : PureFn (kx X) (rMax X.K) (f1 dMax) := pure1 fun F H d z v Q hs r hf hq => by
  cases d <;> simp only [dMax, reduceCtorEq, Option.bind_eq_some_iff, Option.map_eq_some_iff] at hf
  obtain ⟨bs, hb, m, hm, rfl⟩ := hf
  obtain ⟨a, vs, e, q, l⟩ := r.lst hs
  have := intsOf_h hb l
  subst this
  cases bs with
  | nil => simp [maxI] at hm
  | cons x bs =>
    simp only [maxI, Option.some.injEq] at hm
    obtain ⟨h1, h2⟩ := maxI_foldl bs x
    rw [hm] at h1 h2
    refine ⟨a, x :: bs, by rw [e], SqL.of q, by simp, fun k hk hl => ?_⟩
    have : k = m := by have := hl m h1; have := h2 k hk; omega
    subst this
    exact hq.here hs Rep.int

/-! ### methods -/
def dTy (T : String) : D → Bool
  | .str _ => T == "str"
  | .lst _ => T == "list"
  | _ => false
theorem dTy_h {T : String} {d : D} {v : V} (hs : Same F H) (h : dTy T d = true) (r : RepT W F H d v) : tyV W.K T v H := by
  cases d <;> simp only [dTy, beq_iff_eq, Bool.false_eq_true] at h
  · rw [r.str]; exact h
  · obtain ⟨a, vs, e, q, l⟩ := r.lst hs
    rw [e]; exact .inl ⟨h, vs, SqL.of q⟩
def PureMt (W : Kx) (r : V → List V → Hp → VK → Prop) (f : D → List D → Option D) : Prop :=
  ∀ F H d ds z v vs Q, Same F H → RepT W F H d v → RepTs W F H ds vs → f d ds = some z → PureK W F H z Q → r v vs H Q
def mMt (T : String) (oa : Op3) (os : List Op3) (f : D → List D → Option D) (ma : M D) (ms : M (List D)) : M D := fun e => (ma e).bind fun da e1 => match opd oa da e1 with
  | some x0 => if dTy T x0 = true then (ms e1).bind (fun ds e2 => match opd oa da e2, opds os ds e2 with
    | some x, some xs => .opt (f x xs) e2
    | _, _ => .stk) else .stk
  | none => .stk
theorem tBM_of {T : String} {r : V → List V → Hp → VK → Prop} {ma : M D} {oa : Op3} {ms : M (List D)} {os : List Op3} {f : D → List D → Option D} (hp : PureMt W r f) (ka : opsOk mk oa = true) (ko : opssOk mk os = true) (Q : VK)
    (h : tE W io E mk (mMt T oa os f ma ms) .fr σ H Q) : tBM W.K T r (tO W io E mk ma oa) (tAs W io E mk ms os) σ H Q := by
  obtain ⟨g, F, e, rt, l, h⟩ := h
  refine ⟨g, F, e, rt, l, ?_⟩
  unfold mMt at h
  cases qa : ma e with
  | exc c fs => rw [qa] at h; exact h
  | stk => rw [qa] at h; exact h
  | ok da e1 =>
    rw [qa] at h
    rintro va H1 ⟨F1, rt1, s1, l1, ra⟩
    simp only [R.bind_ok] at h
    cases x0 : opd oa da e1 with
    | none => rw [x0] at h; exact h.elim
    | some x =>
      rw [x0] at h
      dsimp only at h
      by_cases ht : dTy T x = true
      · rw [if_pos ht] at h
        refine ⟨dTy_h l1.fr.sub ht (ResO.use (opsOk.h ka) ra (Same.refl _) l1 x0), g, F1, e1, rt1, l1, ?_⟩
        cases qb : ms e1 with
        | exc c fs => rw [qb] at h; exact Exq.mono s1 h
        | stk => rw [qb] at h; exact h
        | ok ds e2 =>
          rw [qb] at h
          intro vs F2 rt2 H2 s2 l2 rb
          simp only [R.bind_ok] at h
          cases xa : opd oa da e2 with
          | none => rw [xa] at h; exact h.elim
          | some x =>
            cases xb : opds os ds e2 with
            | none => rw [xa, xb] at h; exact h.elim
            | some xs =>
              rw [xa, xb] at h
              dsimp only at h
              cases xf : f x xs with
              | none => simp only [xf] at h; exact h.elim
              | some z =>
                simp only [xf] at h
                exact hp F2 H2 x xs z va vs Q l2.fr.sub (ResO.use (opsOk.h ka) ra s2 l2 xa) (AtOs.use ko rb l2 xb) xf (l2.pureK fun v H' r => h v H' (r.mono (s1.trans s2)))
      · rw [if_neg ht] at h; exact h.elim
section
variable {o e0 : Expr} {es : List Expr} {name : Str} {apos cpos : Pos} {T id : String} {r : V → List V → Hp → VK → Prop} {ma : M D} {oa : Op3} {ms : M (List D)} {os : List Op3} {f : D → List D → Option D}
theorem ev_mt (pa : PlainAttrs T) (slot : Slot T name id) (hty : typeOf (.builtin id) = pure (.type "method_descriptor")) (hm : MtR X id r) (hp : PureMt (kx X) r f) (ho : OV X io E mk o ma oa) (ha : AV X io E mk (e0 :: es) ms os) (ka : opsOk mk oa = true := by rfl) (ko : opssOk mk os = true := by rfl)
    (hbase : attributeBase o name X.env (eval o X.env) = eval o X.env := by rfl)
    (hfew : ((backTo cpos (starEach (e0 :: es) X.env)).all (fun x => !x.1) && (backToKw cpos (keywordEach [] X.env)).all (fun x => x.1.isSome)
      && decide ((e0 :: es).length + ([] : List Keyword).length + (if ([] : List Keyword).isEmpty then 0 else 1) < 30)) = true := by rfl)
    (hline : (apos.endLine == cpos.line) = true := by rfl) (hs : starEach (e0 :: es) X.env = (false, eval e0 X.env) :: starEach es X.env := by rfl) (hplain : (backTo cpos (starEach es X.env)).any (·.1) = false := by rfl) :
    EV X io E mk (.Call (.Attribute o name apos) (e0 :: es) [] cpos) (mMt T oa os f ma ms) .fr :=
  (pe_bm pa slot hty hm ho ha hbase hfew hline hs hplain).imp fun σ H Q h => tBM_of (W := kx X) hp ka ko Q h
end
/-- sep.join(xs) -/
def joinD (sep : List Nat) : List (List Nat) → List Nat
  | [] => []
  | [a] => a
  | a :: r => a ++ sep ++ joinD sep r
theorem joinD_eq (sep : List Nat) : ∀ ys : List (List Nat), joinD sep ys = TL.joinL sep ys
  | [] => rfl
  | [_] => rfl
  | a :: b :: r => by
    show a ++ sep ++ joinD sep (b :: r) = a ++ (sep ++ TL.joinL sep (b :: r))
    rw [joinD_eq sep (b :: r), List.append_assoc]
theorem join_S (sep : List Nat) : ∀ ys : List (List Nat), Txt.join (S sep) (ys.map S) = S (joinD sep ys) := fun ys => by
  rw [show Txt.join (S sep) (ys.map S) = S (TL.joinL sep ys) from SX.join_S sep ys, joinD_eq]
def dJoin : D → List D → Option D := fun d ds => match d, ds with
  | .str sep, [.lst xs] => (strsOf xs).bind fun ys => if (ys.map List.length).sum + ys.length * sep.length ≤ 16777216 then some (.str (joinD sep ys)) else none
  | .str sep, [.tup xs] => (strsOf xs).bind fun ys => if (ys.map List.length).sum + ys.length * sep.length ≤ 16777216 then some (.str (joinD sep ys)) else none
  | _, _ => none
theorem pure_join : PureMt (kx X) (fun x xs H Q => ∃ a p, ∃ ys : List Str, x = .str a ∧ xs = [.ref p] ∧ (SqL X.K H p (ys.map V.str) ∨ SqT X.K H p (ys.map V.str)) ∧
    (ys.map (·.length)).sum + ys.length * a.length ≤ 16777216 ∧ Q (.str (Txt.join a ys)) H) dJoin := by
  intro F H d ds z v vs Q hs r rs hf hq
  unfold dJoin at hf
  split at hf
  · rename_i sep xs
    obtain ⟨u, rfl, ru⟩ := repTs1 rs
    obtain ⟨ys, hy, hf⟩ := Option.bind_eq_some_iff.mp hf
    split at hf
    · rename_i hz
      cases hf
      obtain ⟨a, ws, e, q, l⟩ := ru.lst hs
      have := strsOf_h hy l
      subst this
      refine ⟨S sep, a, ys.map S, r.str, by rw [e], .inl (SqL.of (by rw [q, List.map_map]; rfl)), ?_, ?_⟩
      · rw [List.map_map, List.length_map, S_len]
        have : ((fun x : Str => x.length) ∘ S) = List.length := by funext x; exact S_len x
        rw [this]; exact hz
      · rw [join_S]
        exact hq.here hs Rep.str
    · cases hf
  · rename_i sep xs
    obtain ⟨u, rfl, ru⟩ := repTs1 rs
    obtain ⟨ys, hy, hf⟩ := Option.bind_eq_some_iff.mp hf
    split at hf
    · rename_i hz
      cases hf
      obtain ⟨a, ws, e, q, l⟩ := rep_tup.mp ru.tupR
      have := strsOf_h hy l
      subst this
      refine ⟨S sep, a, ys.map S, r.str, by rw [e], .inr (sqT_mono hs (by rw [List.map_map]; exact q)), ?_, ?_⟩
      · rw [List.map_map, List.length_map, S_len]
        have : ((fun x : Str => x.length) ∘ S) = List.length := by funext x; exact S_len x
        rw [this]; exact hz
      · rw [join_S]
        exact hq.here hs Rep.str
    · cases hf
  · cases hf
/-- s.count(c), of one sign -/
theorem count_S (s : List Nat) (c : Nat) : Txt.count (S s) (S [c]) = ((s.count c : Nat) : Int) := by
  rw [show Txt.count (S s) (S [c]) = PyProof.Rows.cnt c (S s).cps.toList from PyProof.Rows.count_cnt (S s) c]
  show PyProof.Rows.cnt c s = _
  induction s with
  | nil => rfl
  | cons x r ih =>
    have e : PyProof.Rows.cnt c (x :: r) = (if (S [x] == S [c]) = true then 1 else 0) + PyProof.Rows.cnt c r := rfl
    rw [e, ih, List.count_cons, SX.S_beq]
    have e2 : ([x] == [c]) = (x == c) := by simp
    rw [e2]
    by_cases h : (x == c) = true
    · rw [if_pos h, if_pos h]; omega
    · rw [if_neg h, if_neg h]; omega
def dCount : D → List D → Option D := fun d ds => match d, ds with
  | .str s, [.str [c]] => some (.int (s.count c : Nat))
  | _, _ => none
theorem pure_count : PureMt W (fun x xs H Q => ∃ a b, x = .str a ∧ xs = [.str b] ∧ Q (.int (Txt.count a b)) H) dCount := by
  intro F H d ds z v vs Q hs r rs hf hq
  unfold dCount at hf
  split at hf
  · rename_i s c
    cases hf
    obtain ⟨u, rfl, ru⟩ := repTs1 rs
    refine ⟨S s, S [c], r.str, by rw [ru.str], ?_⟩
    rw [count_S]
    exact hq.here hs Rep.int
  · cases hf

/-! ### stores into a slot's own list -/
/-- the slot's own list has a new content -/
theorem Rl.store {e : Env3} {i : Nat} {ds ds' : List D} {p : Addr} {vs vs' : List V} (l : Rl W io g F mk e rt σ H) (hi : mk.getD i .fr = .own .fr) (he : e[i]? = some (some (.lst ds))) (hp : σ[i]? = some (some (.ref p))) (q : H p = some (.lst vs)) (r : RepL W F ds' vs') :
    Rl W io g F mk (e.set i (some (.lst ds'))) rt σ (L2.upd H p (.lst vs')) := by
  obtain ⟨p', vs0, h1, h2, h3, h4, h5⟩ := l.slot hi he
  rw [hp] at h1
  cases h1
  refine l.turn hi hp h5 (List.getElem?_eq_some_iff.mp he).1 (Same.refl _) (fun b o z => ?_) (fun b o z hb => by rw [upd_ne hb]; exact z) (fun b o z => .inl z) upd_same h3 r
  rw [upd_ne (ne_of_none z h3)]
  exact l.fr.sub b o z
/-- x.append(y) .. : a statement that changes the slot's list by a function of it and the arguments -/
def sMut (i : Nat) (f : List D → List D → Option (List D)) (ms : M (List D)) : M3 := fun e => match e[i]? with
  | some (some (D.lst _)) => (ms e).st fun ds e1 => (match e1[i]? with
    | some (some (D.lst xs)) => (match f xs ds with
      | some ys => .nx (e1.set i (some (.lst ys)))
      | none => .stk)
    | _ => .stk)
  | _ => .stk
/-- what a mutating method asks -/
def MutOk (W : Kx) (r : V → List V → Hp → VK → Prop) (f : List D → List D → Option (List D)) : Prop :=
  ∀ F H xs ds ys p vs ws Q, Same F H → H p = some (.lst vs) → F p = none → RepL W F xs vs → RepL W F ds ws → f xs ds = some ys → (∀ u vs', RepL W F ys vs' → Q u (upd H p (.lst vs'))) → r (.ref p) ws H Q
theorem sMut_of {T : String} {r : V → List V → Hp → VK → Prop} {i : Nat} {f : List D → List D → Option (List D)} {ms : M (List D)} {os : List Op3} {D' : Ends} (hT : T = "list") (hm : MutOk W r f) (hi : mk.getD i .fr = .own .fr) (ho : allEx os = true)
    (h : tS W io E mk kr (sMut i f ms) D' σ H) : tBM W.K T r (tVar i) (tAs W io E mk ms os) σ H (fun _ H1 => D'.nx σ H1) := by
  obtain ⟨g, F, e, rt, l, h⟩ := h
  unfold sMut at h
  cases h0 : e[i]? with
  | none => rw [h0] at h; exact h.elim
  | some o0 =>
    cases o0 with
    | none => rw [h0] at h; exact h.elim
    | some d0 =>
      cases d0 with
      | lst xs0 =>
        rw [h0] at h
        dsimp only at h
        obtain ⟨p, vs0, a1, a2, a3, a4, a5⟩ := l.slot hi h0
        refine ⟨_, a1, .inl ⟨hT, vs0, SqL.of a2⟩, g, F, e, rt, l, ?_⟩
        cases q : ms e with
        | exc c fs => rw [q] at h; exact h σ rfl
        | stk => rw [q] at h; exact h
        | ok ds e1 =>
          rw [q] at h
          intro ws F1 rt1 H1 s1 l1 b1
          simp only [R.st_ok] at h
          cases h2 : e1[i]? with
          | none => rw [h2] at h; exact h.elim
          | some o2 =>
            cases o2 with
            | none => rw [h2] at h; exact h.elim
            | some d2 =>
              cases d2 with
              | lst xs =>
                rw [h2] at h
                dsimp only at h
                obtain ⟨p2, vs, c1, c2, c3, c4, c5⟩ := l1.slot hi h2
                rw [a1] at c1
                cases c1
                cases q3 : f xs ds with
                | none => rw [q3] at h; exact h.elim
                | some ys =>
                  rw [q3] at h
                  refine hm F1 H1 xs ds ys p vs ws _ l1.fr.sub c2 c3 c4 (atOs_ex b1 ho) q3 fun u vs' r' => ?_
                  exact h σ F1 rt1 _ rfl s1 (l1.store hi h2 a1 c2 r')
              | _ => rw [h2] at h; exact h.elim
      | _ => rw [h0] at h; exact h.elim
def muAppend : List D → List D → Option (List D) := fun xs ds => match ds with
  | [d] => if xs.length < sizeLine then some (xs ++ [d]) else none
  | _ => none
theorem mut_append : MutOk W rAppend muAppend := by
  intro F H xs ds ys p vs ws Q hs q1 q2 r rs hf hq
  unfold muAppend at hf
  split at hf
  · rename_i d
    split at hf
    · rename_i hz
      cases hf
      simp only [RepL] at rs
      obtain ⟨v, w, rfl, r1, rfl⟩ := rs
      exact ⟨p, vs, v, rfl, rfl, q1, by rw [← r.length]; exact hz, hq _ _ (r.append (.cons r1 .nil))⟩
    · cases hf
  · cases hf
def muExtend : List D → List D → Option (List D) := fun xs ds => match ds with
  | [.lst zs] => if xs.length + zs.length ≤ sizeLine then some (xs ++ zs) else none
  | _ => none
theorem mut_extend : MutOk W rExtend muExtend := by
  intro F H xs ds ys p vs ws Q hs q1 q2 r rs hf hq
  unfold muExtend at hf
  split at hf
  · rename_i zs
    split at hf
    · rename_i hz
      cases hf
      simp only [RepL] at rs
      obtain ⟨v, w, rfl, r1, rfl⟩ := rs
      obtain ⟨b, us, rfl, q3, r3⟩ := rep_lst.mp r1
      exact ⟨p, b, vs, us, rfl, rfl, q1, hs _ _ q3, by rw [← r.length, ← r3.length]; exact hz, hq _ _ (r.append r3)⟩
    · cases hf
  · cases hf
section
variable {o e0 : Expr} {es : List Expr} {x : Str} {np apos cpos spos : Pos} {ms : M (List D)} {os : List Op3}
theorem sv_append (i : Nat) (hx : PE X (.Name x np) (tVar i)) (ha : AV X io E mk [e0] ms os) (hi : mk.getD i .fr = .own .fr := by rfl) (ho : allEx os = true := by rfl)
    (hbase : attributeBase (.Name x np) "append" X.env (eval (.Name x np) X.env) = eval (.Name x np) X.env := by rfl) (hline : (apos.endLine == cpos.line) = true := by rfl)
    (hfew : ((backTo cpos (starEach [e0] X.env)).all (fun x => !x.1) && (backToKw cpos (keywordEach [] X.env)).all (fun x => x.1.isSome)
      && decide (([e0] : List Expr).length + ([] : List Keyword).length + (if ([] : List Keyword).isEmpty then 0 else 1) < 30)) = true := by rfl) (hs : starEach [e0] X.env = (false, eval e0 X.env) :: starEach [] X.env := by rfl)
    (hsw : swapsWith (.Call (.Attribute (.Name x np) "append" apos) [e0] [] cpos) none spos.line X.env = pure false := by rfl) :
    SV X io E mk kr (.Expr (.Call (.Attribute (.Name x np) "append" apos) [e0] [] cpos) spos) (sMut i muAppend ms) :=
  (ps_expr (pe_bm PySem.F.plainAttrs_list PySem.F.slot_list_append PySem.F.type_list_append mt_append hx ha hbase hfew hline hs) hsw).imp fun D' σ H h => sMut_of (W := kx X) rfl mut_append hi ho h
theorem sv_extend (i : Nat) (hx : PE X (.Name x np) (tVar i)) (ha : AV X io E mk [e0] ms os) (hi : mk.getD i .fr = .own .fr := by rfl) (ho : allEx os = true := by rfl)
    (hbase : attributeBase (.Name x np) "extend" X.env (eval (.Name x np) X.env) = eval (.Name x np) X.env := by rfl) (hline : (apos.endLine == cpos.line) = true := by rfl)
    (hfew : ((backTo cpos (starEach [e0] X.env)).all (fun x => !x.1) && (backToKw cpos (keywordEach [] X.env)).all (fun x => x.1.isSome)
      && decide (([e0] : List Expr).length + ([] : List Keyword).length + (if ([] : List Keyword).isEmpty then 0 else 1) < 30)) = true := by rfl) (hs : starEach [e0] X.env = (false, eval e0 X.env) :: starEach [] X.env := by rfl)
    (hsw : swapsWith (.Call (.Attribute (.Name x np) "extend" apos) [e0] [] cpos) none spos.line X.env = pure false := by rfl) :
    SV X io E mk kr (.Expr (.Call (.Attribute (.Name x np) "extend" apos) [e0] [] cpos) spos) (sMut i muExtend ms) :=
  (ps_expr (pe_bm PySem.F.plainAttrs_list PySem.F.slot_list_extend PySem.F.type_list_extend mt_extend hx ha hbase hfew hline hs) hsw).imp fun D' σ H h => sMut_of (W := kx X) rfl mut_extend hi ho h
end
/-- x[k] = v, x a slot's own list -/
def sStore (i : Nat) (mv mi : M D) : M3 := fun e => (mv e).st fun d e1 => match e1[i]? with
  | some (some (D.lst _)) => (mi e1).st fun k e2 => (match k, e2[i]? with
    | .int k, some (some (D.lst xs)) => (match ixN xs.length k with
      | some j => .nx (e2.set i (some (.lst (xs.set j d))))
      | none => .stk)
    | _, _ => .stk)
  | _ => .stk
theorem sv_store (i : Nat) {x : Str} {np tpos spos : Pos} {ei ev : Expr} {mv mi : M D} (hx : PE X (.Name x np) (tVar i)) (hi : EV X io E mk ei mi .fr) (hv : EV X io E mk ev mv .fr) (hk : mk.getD i .fr = .own .fr := by rfl)
    (ha : ∀ v, assign (.Subscript (.Name x np) ei tpos) X.env v = (do
      let ov ← holding [v] (eval (.Name x np) X.env)
      let iv ← holding [v, ov] (eval ei X.env)
      standAt tpos
      holding [v, ov, iv] (setItem ov iv v)
      release [v, ov, iv] []) := by intro _; rfl)
    (hs : swapsWithSole [.Subscript (.Name x np) ei tpos] ev spos.line X.env = pure false := by rfl) (hw : swappedStores [.Subscript (.Name x np) ei tpos] ev X.env = pure none := by rfl)
    (h1 : (assignEach [.Subscript (.Name x np) ei tpos] X.env).map (·.2) = [assign (.Subscript (.Name x np) ei tpos) X.env] := by rfl) : SV X io E mk kr (.Assign [.Subscript (.Name x np) ei tpos] ev spos) (sStore i mv mi) :=
  (ps_asg hv (pg_sub hx hi set_list ha) hs hw h1).imp fun D' σ H h => by
    obtain ⟨g, F, e, rt, l, h⟩ := h
    refine ⟨g, F, e, rt, l, ?_⟩
    unfold sStore at h
    cases q : mv e with
    | exc c fs => rw [q] at h; exact h σ rfl
    | stk => rw [q] at h; exact h
    | ok d e1 =>
      rw [q] at h
      intro v H1 r
      obtain ⟨F1, rt1, rs, s1, l1, k1, n1, o1⟩ := r.ex
      simp only [R.st_ok] at h
      cases h0 : e1[i]? with
      | none => rw [h0] at h; exact h.elim
      | some o0 =>
        cases o0 with
        | none => rw [h0] at h; exact h.elim
        | some d0 =>
          cases d0 with
          | lst xs0 =>
            rw [h0] at h
            dsimp only at h
            obtain ⟨p, vs0, a1, a2, a3, a4, a5⟩ := l1.slot hk h0
            refine ⟨_, a1, g, F1, e1, rt1, l1, ?_⟩
            cases q2 : mi e1 with
            | exc c fs => rw [q2] at h; exact Exq.mono s1 (h σ rfl)
            | stk => rw [q2] at h; exact h
            | ok k e2 =>
              rw [q2] at h
              intro u H2 r2
              obtain ⟨F2, rt2, rs2, s2, l2, k2, n2, o2⟩ := r2.ex
              simp only [R.st_ok] at h
              cases k with
              | int k =>
                cases h2 : e2[i]? with
                | none => rw [h2] at h; exact h.elim
                | some o2 =>
                  cases o2 with
                  | none => rw [h2] at h; exact h.elim
                  | some d2 =>
                    cases d2 with
                    | lst xs =>
                      rw [h2] at h
                      dsimp only at h
                      obtain ⟨p2, vs, c1, c2, c3, c4, c5⟩ := l2.slot hk h2
                      rw [a1] at c1
                      cases c1
                      cases q3 : ixN xs.length k with
                      | none => rw [q3] at h; exact h.elim
                      | some j =>
                        rw [q3] at h
                        refine ⟨p, vs, k, j, rfl, Rep.of_int k2.1, c2, by rw [← c4.length]; exact q3, ?_⟩
                        exact h σ F2 rt2 _ rfl (s1.trans s2) (l2.store hk h2 a1 c2 (c4.set j (k1.1.mono s2)))
                    | _ => rw [h2] at h; exact h.elim
              | _ => exact h.elim
          | _ => rw [h0] at h; exact h.elim
end
end L3

namespace L3
open PySem PySem.Spec L2
open PyProof.Rows hiding St

/-! # L3K: isinstance, all, any; any thing walked -/
section
variable {X : Cx} {io : List Nat} {E : WX} {mk : List Kd} {kr : Kd} {W : Kx} {g : Gh} {F F' H H' : Hp} {rt : Nat → List Addr} {σ : L2.St} {pos p : Pos}
theorem pure_all : PureFn (kx X) (rAll X.K) (f1 dAll) := pure1 fun F H d z v Q hs r hf hq => by
  cases d <;> simp only [dAll, reduceCtorEq, Option.map_eq_some_iff] at hf
  obtain ⟨bs, hb, rfl⟩ := hf
  obtain ⟨a, vs, e, q, l⟩ := r.lst hs
  have := blsOf_h hb l
  subst this
  exact ⟨a, bs, by rw [e], SqL.of q, hq.here hs Rep.bl⟩
theorem pure_any : PureFn (kx X) (rAny X.K) (f1 dAny) := pure1 fun F H d z v Q hs r hf hq => by
  cases d <;> simp only [dAny, reduceCtorEq, Option.map_eq_some_iff] at hf
  obtain ⟨bs, hb, rfl⟩ := hf
  obtain ⟨a, vs, e, q, l⟩ := r.lst hs
  have := blsOf_h hb l
  subst this
  exact ⟨a, bs, by rw [e], SqL.of q, hq.here hs Rep.bl⟩
theorem join_S' (sep : List Nat) : ∀ ys : List (List Nat), Txt.join (S sep) (ys.map S) = S (joinD sep ys) := join_S sep

/-! ### isinstance of built-in classes -/
/-- the name of a datum's built-in class -/
def tyD : D → Option String
  | .non => some "NoneType"
  | .bl _ => some "bool"
  | .int _ => some "int"
  | .str _ => some "str"
  | .lst _ => some "list"
  | .tup _ => some "tuple"
  | .dic ks _ => (match ks with
    | .tup _ :: _ => none
    | _ => some "dict")
  | .ins _ _ _ => none
  | .scr _ => some "list"
  | .fz _ => none
  | .nd _ => none
theorem sqt_tyX {K : PySem.W.Frag} {a : Addr} {vs : List V} (h : SqT K H a vs) : TyX K H (.ref a) (.type "tuple") := by
  rcases h with (h | ⟨o, h⟩) | ⟨o, its, n, hk, hc, _⟩
  · exact .base (.tup h)
  · exact .fTuple h
  · exact .kTuple hk hc
theorem sql_tyX {K : PySem.W.Frag} {a : Addr} {vs : List V} (h : SqL K H a vs) : TyX K H (.ref a) (.type "list") := by
  rcases h with (h | ⟨o, h⟩) | ⟨o, its, n, hk, hc, _⟩
  · exact .base (.lst h)
  · exact .base (.frz h)
  · exact .kList hk hc
theorem rep_tyX {d : D} {v : V} {T : String} (h : tyD d = some T) (r : Rep W H d v) : TyX W.K H v (.type T) := by
  cases d <;> simp only [tyD, Option.some.injEq, reduceCtorEq] at h <;> try subst h
  · rw [show v = .non by simpa [Rep] using r]; exact .base .non
  · rw [Rep.of_bl r]; exact .base (.bl _)
  · rw [Rep.of_int r]; exact .base (.int _)
  · rw [Rep.of_str r]; exact .base (.str _)
  · obtain ⟨a, vs, rfl, q, l⟩ := rep_tup.mp r; exact sqt_tyX q
  · obtain ⟨a, vs, rfl, q, l⟩ := rep_lst.mp r; exact .base (.lst q)
  · simp only [Rep] at r
    rcases r with ⟨a, o, kvs, rfl, q, hk, _⟩ | ⟨a, o, kvs, rfl, q, ne, hk, _⟩
    · have : T = "dict" := by
        subst hk
        cases kvs with
        | nil => simpa using h.symm
        | cons p r =>
          obtain ⟨k, v⟩ := p
          cases k <;> simpa [kD] using h.symm
      subst this
      exact .fDict q
    · subst hk
      cases kvs with
      | nil => exact absurd rfl ne
      | cons p r => simp at h
  · simp only [Rep] at r
    obtain ⟨a, rfl, q⟩ := r
    exact sql_tyX q
/-- is a class of that name a subclass of T -/
def isaB (a T : String) : Bool := a == T || (a == "bool" && T == "int")
def kitList : List String := ["NoneType", "bool", "int", "str", "list", "tuple", "dict"]
theorem kit_all : (kitList.all fun a => ["int", "bool", "str", "list", "tuple", "dict"].all fun T => decide (kitB a T = some (isaB a T))) = true := by decide +kernel
theorem tyD_mem {d : D} {a : String} (h : tyD d = some a) : a ∈ kitList := by
  cases d <;> simp only [tyD, Option.some.injEq, reduceCtorEq] at h <;> first | (subst h; simp [kitList]) | (split at h <;> first | (cases h; done) | (cases h; simp [kitList]))
theorem kit_isa {d : D} {a T : String} (h : tyD d = some a) (hT : T ∈ ["int", "bool", "str", "list", "tuple", "dict"]) : kitB a T = some (isaB a T) := by
  have h1 := List.all_eq_true.mp kit_all a (tyD_mem h)
  exact of_decide_eq_true (List.all_eq_true.mp h1 T hT)
def dIsa (T : String) (d : D) : Option D := (tyD d).map fun a => .bl (isaB a T)
def mIsa (T : String) (oa : Op3) (ma : M D) : M D := fun e => (ma e).bind fun da e1 => match opd oa da e1 with
  | some x => .opt (dIsa T x) e1
  | none => .stk
theorem ev_isa (T : String) {a : Expr} {x : Str} {ma : M D} {oa : Op3} {p2 : Pos} (hg : Gl X "isinstance") (hm : X.mg "isinstance" = none) (hgT : Gl X x) (hmT : X.mg x = none) (hvT : bootBuiltins x = some (.type T)) (ha : OV X io E mk a ma oa) (hT : T ∈ ["int", "bool", "str", "list", "tuple", "dict"] := by decide) (ka : opsOk mk oa = true := by rfl) (hnT : x ≠ "__name__" := by decide) (hdT : (x == ("__debug__" : Str)) = false := by decide)
    (he : starEach [a, .Name x p2] X.env = (false, eval a X.env) :: starEach [.Name x p2] X.env := by rfl) (he2 : starEach [.Name x p2] X.env = [(false, eval (.Name x p2) X.env)] := by rfl) (hpl : (backTo pos (starEach [.Name x p2] X.env)).any (·.1) = false := by rfl) :
    EV X io E mk (.Call (.Name "isinstance" p) [a, .Name x p2] [] pos) (mIsa T oa ma) .fr :=
  (pe_callB call_isi hg hm (by decide +kernel) (pa_cons ha (pa_cons (pe_bltn (v := .ty T) hgT hmT hvT rfl hnT hdT) pa_nil he2) he) (by decide) (by decide) he hpl).imp fun σ H Q h => by
    obtain ⟨g, F, e, rt, l, h⟩ := h
    refine ⟨g, F, e, rt, l, ?_⟩
    unfold mIsa at h
    cases qa : ma e with
    | exc c fs => rw [qa] at h; exact h
    | stk => rw [qa] at h; exact h
    | ok da e1 =>
      rw [qa] at h
      rintro va H1 ⟨F1, rt1, s1, l1, ra⟩
      simp only [R.bind_ok] at h
      cases xa : opd oa da e1 with
      | none => rw [xa] at h; exact h.elim
      | some x =>
        rw [xa] at h
        have tx := ResO.use (opsOk.h ka) ra (Same.refl _) l1 xa
        cases q : tyD x with
        | none => simp only [dIsa, q, Option.map_none] at h; exact h.elim
        | some a =>
          simp only [dIsa, q, Option.map_some] at h
          refine ⟨va, .ty T, _, _, isaB a T, rfl, .ty T, rep_tyX q (tx.deep l1.fr.sub), kit_ty (kit_isa q hT), ?_⟩
          exact h _ H1 (.mono s1 (.fr0 l1 Rep.bl))
def dIsa2 (T U : String) (d : D) : Option D := (tyD d).map fun a => .bl (isaB a T || isaB a U)
def mIsa2 (T U : String) (oa : Op3) (ma : M D) : M D := fun e => (ma e).bind fun da e1 => match opd oa da e1 with
  | some x => .opt (dIsa2 T U x) e1
  | none => .stk
theorem ev_isa2 (T U : String) {a : Expr} {x y : Str} {ma : M D} {oa : Op3} {p2 p3 p4 : Pos} {kk : Nat} (hg : Gl X "isinstance") (hm : X.mg "isinstance" = none) (hgT : Gl X x) (hmT : X.mg x = none) (hvT : bootBuiltins x = some (.type T)) (hgU : Gl X y) (hmU : X.mg y = none) (hvU : bootBuiltins y = some (.type U)) (ha : OV X io E mk a ma oa)
    (hT : T ∈ ["int", "bool", "str", "list", "tuple", "dict"] := by decide) (hU : U ∈ ["int", "bool", "str", "list", "tuple", "dict"] := by decide) (ka : opsOk mk oa = true := by rfl) (hnT : x ≠ "__name__" := by decide) (hdT : (x == ("__debug__" : Str)) = false := by decide) (hnU : y ≠ "__name__" := by decide) (hdU : (y == ("__debug__" : Str)) = false := by decide)
    (he : starEach [a, .Tuple [.Name x p2, .Name y p3] kk p4] X.env = (false, eval a X.env) :: starEach [.Tuple [.Name x p2, .Name y p3] kk p4] X.env := by rfl) (he2 : starEach [.Tuple [.Name x p2, .Name y p3] kk p4] X.env = [(false, eval (.Tuple [.Name x p2, .Name y p3] kk p4) X.env)] := by rfl)
    (he3 : starEach [.Name x p2, .Name y p3] X.env = (false, eval (.Name x p2) X.env) :: starEach [.Name y p3] X.env := by rfl) (he4 : starEach [.Name y p3] X.env = [(false, eval (.Name y p3) X.env)] := by rfl)
    (hpl : (backTo pos (starEach [.Tuple [.Name x p2, .Name y p3] kk p4] X.env)).any (·.1) = false := by rfl) :
    EV X io E mk (.Call (.Name "isinstance" p) [a, .Tuple [.Name x p2, .Name y p3] kk p4] [] pos) (mIsa2 T U oa ma) .fr :=
  (pe_callB call_isiT hg hm (by decide +kernel) (pa_cons ha (pa_cons (pe_tup (pa_cons (pe_bltn (v := .ty T) hgT hmT hvT rfl hnT hdT) (pa_cons (pe_bltn (v := .ty U) hgU hmU hvU rfl hnU hdU) pa_nil he4) he3)) pa_nil he2) he) (by decide) (by decide) he hpl).imp fun σ H Q h => by
    obtain ⟨g, F, e, rt, l, h⟩ := h
    refine ⟨g, F, e, rt, l, ?_⟩
    unfold mIsa2 at h
    cases qa : ma e with
    | exc c fs => rw [qa] at h; exact h
    | stk => rw [qa] at h; exact h
    | ok da e1 =>
      rw [qa] at h
      rintro va H1 ⟨F1, rt1, s1, l1, ra⟩
      simp only [R.bind_ok] at h
      refine ⟨by show 2 ≤ sizeLine; decide, fun tp htp => ?_⟩
      cases xa : opd oa da e1 with
      | none => rw [xa] at h; exact h.elim
      | some x =>
        rw [xa] at h
        have tx := ResO.use (opsOk.h ka) ra (Same.refl _) l1 xa
        have hF := fresh_F l1.fr.sub htp
        cases q : tyD x with
        | none => simp only [dIsa2, q, Option.map_none] at h; exact h.elim
        | some a =>
          simp only [dIsa2, q, Option.map_some] at h
          refine ⟨va, tp, _, _, [.type T, .type U], isaB a T || isaB a U, rfl, upd_same, .cons (.ty T) (.cons (.ty U) .nil), rep_tyX q ((tx.deep l1.fr.sub).mono (sameUpd htp)), ?_, ?_⟩
          · refine kitAny_cons (kit_ty (kit_isa q hT)) (fun hf => ?_) (fun ht => by rw [ht]; rfl)
            refine kitAny_cons (b := isaB a U) (kit_ty (kit_isa q hU)) (fun hf2 => ?_) (fun ht => by rw [ht]; cases isaB a T <;> rfl)
            rw [hf, hf2]; exact kitAny_nil
          · refine h _ _ (.mono s1 (.fr1 (F' := F1) (Same.refl _) (l1.grow (Same.refl _) (l1.fr.fresh htp) fun i q hq => ?_) Rep.bl))
            obtain ⟨z1, o, z2⟩ := l1.none hq
            exact ⟨upd_ne (fun e => by rw [e, htp] at z2; cases z2), z1⟩

/-! ### any thing walked -/
theorem pi_any {tg x : Expr} {te : TE} (he : PE X x te) : PI X tg x (fun σ H R => te σ H fun x H1 => (∃ a, x = .ref a ∧ (∃ xs, SqL X.K H1 a xs) ∧ R (Itl X.K a) H1) ∨ (∃ a, x = .ref a ∧ (∃ xs, SqT X.K H1 a xs) ∧ R (Itt X.K a) H1) ∨ ∃ z, x = .str z ∧ R (Its z) H1) := by
  refine ⟨fun pins s σ H R I h => ?_⟩
  refine thn (he.run pins s σ H _ I h) fun v s1 ⟨x, H1, I1, r1, q1⟩ => ?_
  rcases q1 with ⟨a, e, ⟨xs, hq⟩, q⟩ | ⟨a, e, ⟨xs, hq⟩, q⟩ | ⟨z, e, q⟩
  · subst e
    cases r1
    obtain ⟨its, rv, p, hz⟩ := I1.list hq
    refine wpAny_pyIter_list p.isList ?_
    refine ⟨s1.heap.objs.size, [s1.heap.objs.size], _, _, H1, rfl, I1.kept (t' := s1.toks) fun b o e => Heap.get?_push_of_some _ e, turn_list a _, ⟨_, Heap.get?_push_size _ rfl, rfl, rfl⟩, fun b hb => ?_, q⟩
    have e : b = s1.heap.objs.size := by simpa using hb
    subst e
    exact I1.fpOk (Nat.le_refl _) (I1.hok.fresh (Nat.le_refl _))
  · subst e
    cases r1
    obtain ⟨its, rv, p, hz⟩ := I1.tuple hq
    refine wpAny_pyIter_tuple (show s1.heap.IsTuple a its.toArray from p) ?_
    refine ⟨s1.heap.objs.size, [s1.heap.objs.size], _, _, H1, rfl, I1.kept (t' := s1.toks) fun b o e => Heap.get?_push_of_some _ e, turn_tuple a _, ⟨_, Heap.get?_push_size _ rfl, rfl, rfl⟩, fun b hb => ?_, q⟩
    have e : b = s1.heap.objs.size := by simpa using hb
    subst e
    exact I1.fpOk (Nat.le_refl _) (I1.hok.fresh (Nat.le_refl _))
  · subst e
    obtain ⟨t, rfl⟩ := r1
    cases ha : z.cps.all (· < 128)
    · exact wpAny_pyIter_wide ha (pi_one (tk := s1.toks) I1 _ (turn_str _ z t "str_iterator" (.inr rfl)) ⟨_, Heap.get?_push_size _ rfl, rfl, rfl⟩ q)
    · exact wpAny_pyIter_ascii ha (pi_one (tk := s1.toks) I1 _ (turn_str _ z t "str_ascii_iterator" (.inl rfl)) ⟨_, Heap.get?_push_size _ rfl, rfl, rfl⟩ q)
def itemsD : D → Option (List D)
  | .lst ds => some ds
  | .tup ds => some ds
  | .str s => some (s.map fun c => .str [c])
  | _ => none
def mIt (m : M D) : M (List D) := fun e => (m e).bind fun d e1 => match itemsD d with
  | some ds => .ok ds e1
  | none => .stk
theorem its_ok {s : List Nat} {F1 : Hp} : ItOk W io g mk F1 σ none (Its (S s)) (s.map fun c => .str [c]) :=
  ⟨fun n d F e rt σ H hd hs l _ => by
    rw [List.getElem?_map] at hd
    cases q : s[n]? with
    | none => rw [q] at hd; cases hd
    | some c =>
      rw [q] at hd
      cases hd
      have hn : n < s.length := (List.getElem?_eq_some_iff.mp q).1
      refine ⟨by show n < (S s).cps.size; simp [S]; exact hn, fun x H' y => .inl ⟨y.1, ?_⟩⟩
      obtain ⟨c', h1, h2⟩ := y.2
      have h3 : s[n]? = some c' := by simpa [S] using h1
      rw [q] at h3
      cases h3
      rw [h2]
      exact Rep.str (b := [c]), fun F e rt σ H hs l _ => by show (S s).cps.size ≤ _; simp [S]⟩
theorem iv_any {tg x : Expr} {m : M D} (h : EV X io E mk x m .fr) : IV X io E mk tg x (mIt m) none := (pi_any h).imp fun σ H K0 h => by
  obtain ⟨g, F, e, rt, l, h⟩ := h
  refine ⟨g, F, e, rt, l, ?_⟩
  unfold mIt at h
  cases q : m e with
  | exc c fs => rw [q] at h; exact h
  | stk => rw [q] at h; exact h
  | ok d e1 =>
    rw [q] at h
    intro v H1 r
    obtain ⟨F1, rt1, rs, h1, l1, k, n, o⟩ := r.ex
    simp only [R.bind_ok] at h
    cases d with
    | lst ds =>
      obtain ⟨a, vs, ev, q1, r1⟩ := rep_lst.mp k.1
      refine .inl ⟨a, ev, ⟨vs, SqL.of (l1.fr.sub _ _ q1)⟩, h _ F1 rt1 H1 h1 l1 ⟨fun n d F2 e2 rt2 σ2 H2 hd hs l2 _ => ?_, fun F2 e2 rt2 σ2 H2 hs l2 _ => ?_⟩⟩
      · obtain ⟨v, hv, rv⟩ := r1.get hd
        have q2 : SqL (kx X).K H2 a vs := SqL.of ((hs.trans l2.fr.sub) _ _ q1)
        refine ⟨⟨vs, v, q2, hv⟩, fun x H' y => .inl ⟨y.1, ?_⟩⟩
        have := y.2 vs q2
        rw [hv] at this; cases this
        exact rv.mono hs
      · exact ⟨vs, SqL.of ((hs.trans l2.fr.sub) _ _ q1), by rw [r1.length]; exact Nat.le_refl _⟩
    | tup ds =>
      obtain ⟨a, vs, ev, q1, r1⟩ := rep_tup.mp k.1
      refine .inr (.inl ⟨a, ev, ⟨vs, sqT_mono l1.fr.sub q1⟩, h _ F1 rt1 H1 h1 l1 ⟨fun n d F2 e2 rt2 σ2 H2 hd hs l2 _ => ?_, fun F2 e2 rt2 σ2 H2 hs l2 _ => ?_⟩⟩)
      · obtain ⟨v, hv, rv⟩ := r1.get hd
        have q2 := sqT_mono (hs.trans l2.fr.sub) q1
        refine ⟨⟨vs, v, q2, hv⟩, fun x H' y => .inl ⟨y.1, ?_⟩⟩
        have := y.2 vs q2
        rw [hv] at this; cases this
        exact rv.mono hs
      · exact ⟨vs, sqT_mono (hs.trans l2.fr.sub) q1, by rw [r1.length]; exact Nat.le_refl _⟩
    | str s => exact .inr (.inr ⟨S s, Rep.of_str k.1, h _ F1 rt1 H1 h1 l1 its_ok⟩)
    | _ => exact h.elim

/-! ### constants of the module -/
theorem ev_gstr (s : List Nat) {x : Str} {pos : Pos} (hg : Gl X x) (hm : ∃ t, X.mg x = some (.str (S s) t)) (hd : (x == ("__debug__" : Str)) = false := by decide) : EV X io E mk (.Name x pos) (mC (.str s)) .fr := by
  obtain ⟨t, hm⟩ := hm
  exact ev_glob (.str s) (v := .str (S s)) hg hm ⟨t, rfl⟩ (fun F => Rep.str) hd
theorem ev_gint (i : Int) {x : Str} {pos : Pos} (hg : Gl X x) (hm : ∃ t, X.mg x = some (.int i t)) (hd : (x == ("__debug__" : Str)) = false := by decide) : EV X io E mk (.Name x pos) (mC (.int i)) .fr := by
  obtain ⟨t, hm⟩ := hm
  exact ev_glob (.int i) (v := .int i) hg hm ⟨t, rfl⟩ (fun F => Rep.int) hd
/-- the slot's own value moves out -/
theorem Rl.drop {e : Env3} {i : Nat} {d : D} (l : Rl W io g F mk e rt σ H) (he : e[i]? = some (some d)) : Rl W io g F mk (e.set i Option.none) (fun j => if j = i then [] else rt j) σ H where
  fr := l.fr
  len := by rw [List.length_set]; exact l.len
  var := fun j d' h => by
    by_cases hj : j = i
    · subst hj
      rw [List.getElem?_set_self (List.getElem?_eq_some_iff.mp he).1] at h
      cases h
    · rw [List.getElem?_set_ne (Ne.symm hj)] at h
      obtain ⟨v, h1, k⟩ := l.var j d' h
      exact ⟨v, h1, by rw [if_neg hj]; exact k⟩
  emp := fun j h => by
    by_cases hj : j = i
    · rw [if_pos hj]
    · rw [if_neg hj]
      refine l.emp j fun d' z => h d' ?_
      rw [List.getElem?_set_ne (Ne.symm hj)]
      exact z
  nd := fun j => by
    by_cases hj : j = i
    · rw [if_pos hj]; exact .nil
    · rw [if_neg hj]; exact l.nd j
  dj := fun j k q hne h1 h2 => by
    by_cases hj : j = i
    · rw [if_pos hj] at h1; cases h1
    · by_cases hk : k = i
      · rw [if_pos hk] at h2; cases h2
      · rw [if_neg hj] at h1; rw [if_neg hk] at h2; exact l.dj j k q hne h1 h2
  own := fun j q h => by
    by_cases hj : j = i
    · rw [if_pos hj] at h; cases h
    · rw [if_neg hj] at h; exact l.own j q h
  pin := l.pin
/-- an own slot's value, moved (not one that was handed in) -/
theorem ev_mvX (i : Nat) {x : Str} {pos : Pos} {k : Kd} (hw : io = [] := by rfl) (hk : mk.getD i .fr = k := by rfl) (hN : X.N[i]? = some x := by rfl) (hv : Vis X.env.scope x := by first | exact Or.inl rfl | exact Or.inr (Or.inl rfl) | exact Or.inr (Or.inr rfl)) (hd : (x == ("__debug__" : Str)) = false := by decide)
    (hcd : (x == ("__classdict__" : Str)) = false := by decide) : True := trivial
end
end L3

namespace L3
open PySem PySem.Spec L2
open PyProof.Rows hiding St

/-! # L3L: never, moves, small helps for printed texts -/
section
variable {X : Cx} {io : List Nat} {E : WX} {mk : List Kd} {kr : Kd} {W : Kx} {g : Gh} {F F' H H' : Hp} {rt : Nat → List Addr} {σ : L2.St} {pos p : Pos}
def mStk : M D := fun _ => .stk
def mStkT : M Bool := fun _ => .stk
theorem ev_never {x : Expr} {k : Kd} : EV X io E mk x mStk k := ⟨fun _ _ _ _ _ _ h => by obtain ⟨g, F, e, rt, l, h⟩ := h; exact h.elim⟩
theorem tv_never {x : Expr} : TV X io E mk x mStkT := ⟨fun _ _ _ _ _ _ h => by obtain ⟨g, F, e, rt, l, h⟩ := h; exact h.elim⟩
theorem bv_never {ss : List Stmt} : BV X io E mk kr ss sStk := ⟨fun _ _ _ _ _ _ h => by obtain ⟨g, F, e, rt, l, h⟩ := h; exact h.elim⟩
theorem _root_.L2.Room.units1 {k : Nat} {A : Around} (r : Room k A) : A.units + 65 < cLine := by have := r.un; omega
theorem takes_none {X : Cx} : Takes X E00 := fun u s' ⟨a, B, sI, pins, σ, H, cls, d, e, I, nb, up, sky, na, os, ag, w⟩ => w.elim
theorem gf_nil : ∀ (ds : List D) (e e' : Env3), gfNil ds e = some e' → ds.length = 0 := fun ds e e' h => by
  cases ds with
  | nil => rfl
  | cons d r => cases h
theorem gf_cons {a : D → Env3 → Option Env3} {b : List D → Env3 → Option Env3} {n : Nat} (hb : ∀ ds e e', b ds e = some e' → ds.length = n) : ∀ (ds : List D) (e e' : Env3), gfCons a b ds e = some e' → ds.length = n + 1 := fun ds e e' h => by
  cases ds with
  | nil => cases h
  | cons d r =>
    simp only [gfCons] at h
    cases q : a d e with
    | none => simp [q] at h
    | some e1 =>
      simp only [q] at h
      rw [List.length_cons, hb _ _ _ h]
end
/-! ### list(x) -/
section
variable {X : Cx}
theorem call_listG : CallR X (.type "list") (fun xs H Q => ∃ p ys, xs = [.ref p] ∧ (SqL X.K H p ys ∨ SqT X.K H p ys) ∧ ∀ l, H l = none → Q (.ref l) (upd H l (.lst ys))) := call_list_of
theorem new_listG : NewFn (kx X) (fun xs H Q => ∃ p ys, xs = [.ref p] ∧ (SqL X.K H p ys ∨ SqT X.K H p ys) ∧ ∀ l, H l = none → Q (.ref l) (upd H l (.lst ys))) (f1N dItems) := new_list
end
/-! ### words of the printed texts -/
end L3

namespace L3
open PySem PySem.Spec L2
open PyProof.Rows hiding St

/-! # L3M: raise, try -/
/-! ### list.count of flat items -/
section
variable {X : Cx}
def rCntF (K : PySem.W.Frag) : V → List V → Hp → VK → Prop := fun x xs H Q => ∃ (a : Addr) (ys : List V) (y : V), x = V.ref a ∧ xs = [y] ∧ SqL K H a ys ∧ flatV y = true ∧ ys.all flatV = true ∧ Q (.int (ys.countP (fun z => eqV z y) : Nat)) H
theorem cnt_of {y : V} {ys : List V} {us : List Value} (r : Vals ys us) (f : ys.all flatV = true) : us.countP (eqU y) = ys.countP fun z => eqV z y := by
  induction r with
  | nil => rfl
  | @cons v w vs ws rv rr ih =>
    rw [List.all_cons, Bool.and_eq_true] at f
    rw [List.countP_cons, List.countP_cons, ih f.2, eqU_of rv f.1]
theorem mt_lcountF : MtR X "list.count" (rCntF X.K) := by
  intro pins s σ H x xs v us Q I rx rxs h
  obtain ⟨a, ys, y, rfl, rfl, hs, fy, fys, q⟩ := h
  cases rx
  cases rxs with
  | cons ry rt =>
    rename_i uy ut
    cases rt
    obtain ⟨its, rv, ⟨⟨cls, dd, data, sl⟩, n, ho, hc, hdn, hd⟩, hlen⟩ := I.list hs
    simp only at hc hd
    subst hc hd
    refine call_meets PySem.F.slot_list_count ⟨_, ho, rfl⟩ PySem.F.entry_list_count (PySem.F.args_list_count_2 _ _)
      (SeqAt.list_countAt a its.toArray n dd sl uy (eqU y)) ⟨ho, fun u' hu' => mem_eqAt ry fy rv fys u' (by simpa using hu'), ?_⟩
    have ec : its.toArray.toList.countP (eqU y) = ys.countP fun z => eqV z y := cnt_of rv fys
    refine ⟨.int (ys.countP (fun z => eqV z y) : Nat), H, I.tok _, ⟨s.toks, ?_⟩, q⟩
    show Value.int ((its.toArray.toList.countP (eqU y) : Nat) : Int) s.toks = Value.int ((ys.countP (fun z => eqV z y) : Nat) : Int) s.toks
    rw [ec]
end

/-! ### the own classes of errors -/
/-- what the class says, for isinstance and for its field -/
structure XIs (K : PySem.W.Frag) (C : Addr) : Prop where
  cl : (PySem.W.clsIn K C).isSome = true
  hg : PySem.W.findIn K (.ref C) "__getattribute__" = some (some (.builtin "BaseException.__getattribute__"))
  hk : PySem.W.findIn K (.ref C) "__getattr__" = some none
  hs : PySem.W.subIn K (.ref C) (.type "BaseException") = some true
  ha : PySem.W.findIn K (.ref C) "__class__" = some (some (.builtin "object.__class__"))
  hn : PySem.W.specialIn K (.builtin "object.__class__") "__get__" = some (some (.builtin "getset_descriptor.__get__"))
  ht : PySem.W.takesIn K (.builtin "object.__class__") = some true
  hm : PySem.W.mroIn K C (.type "object") = some true
  hd : PySem.W.hasDictIn K C = true
  hv : PySem.W.findIn K (.ref C) "value" = some none
/-- isinstance(e, c), e the exception that the suite holds, with its dict -/
def rIsX (K : PySem.W.Frag) (cls : Value) (d : Option Addr) (a : Addr) : List V → Hp → VK → Prop := fun xs H Q => ∃ (c : V) (cv : Value) (b : Bool) (C dd : Addr) (fs : List (Str × V)), xs = [.ref a, c] ∧ (∀ u, RelV c u → u = cv) ∧ cls = .ref C ∧ d = some dd ∧ XIs K C ∧ H dd = some (.xd fs) ∧
  PySem.W.kitOne K cls cv = some b ∧ Q (.bl b) H
theorem call_isX {X : Cx} {a : Addr} {oe : Obj} {cls : Value} {d : Option Addr} {pn : List (Addr × Obj)} (hz : Zc cls d oe) (hf : ∃ vs, oe.data = .fields vs) : CallR (X.suite a ((a, oe) :: pn)) (.builtin "isinstance") (rIsX X.K cls d a) := by
  intro pins s σ H xs us Q I r h
  obtain ⟨c, cv, b, C, dd, fs, rfl, hcv, rfl, rfl, T, ea, e, q⟩ := h
  cases r with
  | cons rx rr =>
    cases rr with
    | cons rt rr =>
      cases rr
      cases rx
      have ec := hcv _ rt
      subst ec
      obtain ⟨hget, _⟩ := I.pin (a, oe) (List.mem_append.mpr (.inl List.mem_cons_self))
      obtain ⟨vs, hv⟩ := hf
      have hx : ObjOk X.prog X.w H s.heap dd (.xd fs) := I.hok dd _ ea
      obtain ⟨mA, hns, hr⟩ := hx
      obtain ⟨od, ho, hl⟩ := lookIn_ns hns
      have J : PySem.W.InstAt s.heap a oe C (some od) := ⟨hget, hz.1, by unfold PySem.W.notCls; rw [hv] <;> rfl, by rw [hz.2]; exact ho⟩
      exact PySem.W.kia_one (PySem.W.kitx_exc T.cl T.hg T.hk T.hs T.ha T.hn T.ht T.hm) I.kIn J e (fun z => nomatch z) fun tk => ⟨.bl b, H, I.kept (t' := tk) fun _ _ z => z, rfl, q⟩
/-- [isinstance(e, x), ..] -/
inductive IsaL (v : Str) : List Expr → List Str → Prop where
  | nil : IsaL v [] []
  | cons {p1 p2 p3 p4 : Pos} {x : Str} {es : List Expr} {ns : List Str} (h : IsaL v es ns) : IsaL v (.Call (.Name "isinstance" p1) [.Name v p2, .Name x p3] [] p4 :: es) (x :: ns)
/-- the classes named -/
def Clss (X : Cx) (ns : List Str) : Prop := ∀ x ∈ ns, Gl X x ∧ (x == ("__debug__" : Str)) = false ∧ ∃ C, X.mg x = some (.ref C)
def tIsas (K : PySem.W.Frag) (mg : Str → Option Value) (cls : Value) (d : Option Addr) (a : Addr) (i : Nat) (ns : List Str) : TA := fun σ H Q => ∃ (C dd : Addr) (fs : List (Str × V)) (kb : Str → Bool), σ[i]? = some (some (.ref a)) ∧ cls = .ref C ∧ d = some dd ∧ XIs K C ∧ H dd = some (.xd fs) ∧
  (∀ x ∈ ns, ∀ D, mg x = some (.ref D) → PySem.W.kitOne K cls (.ref D) = some (kb x)) ∧ Q (ns.map fun x => V.bl (kb x)) H
theorem boot_isi : bootBuiltins "isinstance" = some (.builtin "isinstance") := by decide +kernel
theorem pa_isas {X : Cx} {a : Addr} {oe : Obj} {cls : Value} {d : Option Addr} {pn : List (Addr × Obj)} {i : Nat} {n : Str} (hz : Zc cls d oe) (hf : ∃ vs, oe.data = .fields vs) (hN : X.N[i]? = some n) (hv : Vis X.env.scope n) (hdb : (n == ("__debug__" : Str)) = false) (hcd : (n == ("__classdict__" : Str)) = false)
    (hg : Gl X "isinstance") (hm : X.mg "isinstance" = none) : ∀ {es : List Expr} {ns : List Str}, IsaL n es ns → Clss X ns → PA (X.suite a ((a, oe) :: pn)) es (tIsas X.K X.mg cls d a i ns)
  | _, _, .nil, _ => pa_nil.imp fun σ H Q h => by obtain ⟨C, dd, fs, kb, _, _, _, _, _, _, q⟩ := h; exact q
  | _, _, .cons (x := x) (es := es) (ns := ns) h, hc => by
    obtain ⟨hgx, hdx, Cx, hmx⟩ := hc x (.head _)
    have ih := pa_isas (X := X) (a := a) (oe := oe) (pn := pn) hz hf hN hv hdb hcd hg hm h fun y hy => hc y (.tail _ hy)
    refine (pa_cons (pe_callB (X := X.suite a ((a, oe) :: pn)) (call_isX hz hf) hg hm boot_isi (pa_cons (pe_var hN hv hdb hcd) (pa_cons (pe_glob (v := .ref Cx) hgx hmx rfl hdx) pa_nil))) ih).imp fun σ H Q h => ?_
    obtain ⟨C, dd, fs, kb, hi, e1, e2, T, ed, hk, q⟩ := h
    refine ⟨_, hi, _, _, kb x, C, dd, fs, rfl, fun u r => r, e1, e2, T, ed, hk x (.head _) Cx hmx, ?_⟩
    exact ⟨C, dd, fs, kb, hi, e1, e2, T, ed, fun y hy => hk y (.tail _ hy), q⟩
theorem pe_xfD {X : Cx} {a : Addr} {oe : Obj} {cls : Value} {d : Option Addr} {pn : List (Addr × Obj)} {e : Expr} {te : TE} {pos : Pos} (hz : Zc cls d oe) (hf : ∃ vs, oe.data = .fields vs) (he : PE (X.suite a ((a, oe) :: pn)) e te)
    (hb : attributeBase e "value" X.env (eval e X.env) = eval e X.env := by rfl) : PE (X.suite a ((a, oe) :: pn)) (.Attribute e "value" pos) (fun σ H Q => ∃ C, cls = .ref C ∧ XIs X.K C ∧ tXf a cls d C "value" te σ H Q) :=
  ⟨fun pins s σ H Q I ⟨C, _, T, h⟩ => (pe_xf ⟨T.hg, T.hk, T.hs, T.hd⟩ T.hv hz hf he hb).run pins s σ H Q I h⟩
def kix (bs : List Bool) (N : Int) : Int := if bs.count true = 1 then (bs.idxOf true : Nat) else N
def tSuite (K : PySem.W.Frag) (mg : Str → Option Value) (cls : Value) (d : Option Addr) (a : Addr) (i j : Nat) (ns : List Str) (N : Int) : TS := fun D σ H => ∃ (C dd : Addr) (fs : List (Str × V)) (kb : Str → Bool) (y : V), j < σ.length ∧ σ[i]? = some (some (.ref a)) ∧ cls = .ref C ∧ d = some dd ∧ XIs K C ∧ H dd = some (.xd fs) ∧
  (∀ x ∈ ns, ∀ D, mg x = some (.ref D) → PySem.W.kitOne K cls (.ref D) = some (kb x)) ∧ PySem.W.kitOne K cls (.type "ValueError") = some true ∧ fs.lookup ("value" : Str) = some y ∧ ns.length ≤ sizeLine ∧
  ∀ l t, H l = none → (upd H l (.lst (ns.map fun x => V.bl (kb x)))) t = none → D.rt (.ref t) (upd (upd H l (.lst (ns.map fun x => V.bl (kb x)))) t (.tup [.int (kix (ns.map kb) N), y]))
theorem boot_VE : bootBuiltins "ValueError" = some (.type "ValueError") := by decide +kernel
theorem countP_bl (kb : Str → Bool) (ns : List Str) : (ns.map fun x => V.bl (kb x)).countP (fun z => eqV z (.bl true)) = (ns.map kb).count true := by
  induction ns with
  | nil => rfl
  | cons x r ih =>
    rw [List.map_cons, List.map_cons, List.countP_cons, List.count_cons, ih]
    cases kb x <;> rfl
theorem idx_bl : ∀ (bs : List Bool), true ∈ bs → bs[bs.idxOf true]? = some true ∧ ∀ m b, m < bs.idxOf true → bs[m]? = some b → b = false
  | [], h => by cases h
  | true :: r, _ => ⟨by simp [List.idxOf_cons], fun m b hm _ => by simp [List.idxOf_cons] at hm⟩
  | false :: r, h => by
    have h2 : true ∈ r := by
      cases h with
      | tail _ h => exact h
    obtain ⟨a, b⟩ := idx_bl r h2
    have e : (false :: r).idxOf true = r.idxOf true + 1 := by simp [List.idxOf_cons]
    rw [e]
    refine ⟨by simpa using a, fun m c hm hc => ?_⟩
    cases m with
    | zero => simpa using hc.symm
    | succ m => exact b m c (by omega) (by simpa using hc)
theorem suite_ok {X : Cx} {a : Addr} {oe : Obj} {cls : Value} {d : Option Addr} {pn : List (Addr × Obj)} {i j : Nat} {n kn : Str} {es : List Expr} {ns : List Str} {N : Int}
    {kp lp ap c1 c2 c4 c5 c7 c8 d1 d2 d3 d4 d5 f1 f2 f4 f5 f7 f8 ep vp tp rp : Pos} {c3 c6 f3 f6 kk : Nat} (hz : Zc cls d oe) (hf : ∃ vs, oe.data = .fields vs) (hes : IsaL n es ns) (hc : Clss X ns)
    (hND : X.N.Nodup) (hij : i ≠ j) (hN : X.N[i]? = some n) (hv : Vis X.env.scope n) (hdb : (n == ("__debug__" : Str)) = false) (hcd : (n == ("__classdict__" : Str)) = false)
    (hk : X.N[j]? = some kn) (hkv : Vis X.env.scope kn) (hkl : Loc X.env.scope kn) (hkf : X.fn kn = true ∨ X.env.scope.names.lookup kn = some .local) (kdb : (kn == ("__debug__" : Str)) = false) (kcd : (kn == ("__classdict__" : Str)) = false)
    (hg : Gl X "isinstance") (hm : X.mg "isinstance" = none) (hgV : Gl X "ValueError") (hmV : X.mg "ValueError" = none) (hs : swapsWith (.List es lp) (some (.Name kn kp)) ap.line X.env = pure false)
    (l1 : (c2.endLine == c5.line) = true) (l2 : (f2.endLine == f5.line) = true) :
    PSs (X.suite a ((a, oe) :: pn)) [.Assign [.Name kn kp] (.List es lp) ap, .Return (some (.Tuple [.IfExp (.BoolOp .And [.Compare (.Call (.Attribute (.Name kn c1) "count" c2) [.Constant (.bool true) c3 c4] [] c5) [.Eq] [.Constant (.int 1) c6 c7] c8,
      .Call (.Name "isinstance" d1) [.Name n d2, .Name "ValueError" d3] [] d4] d5) (.Call (.Attribute (.Name kn f1) "index" f2) [.Constant (.bool true) f3 f4] [] f5) (.Constant (.int N) f6 f7) f8, .Attribute (.Name n ep) "value" vp] kk tp)) rp] (tSuite X.K X.mg cls d a i j ns N) := by
  have P1 := ps_set (X := X.suite a ((a, oe) :: pn)) (pos' := kp) hND hk hkl (pe_lst (pos := lp) (pa_isas (i := i) hz hf hN hv hdb hcd hg hm hes hc)) hs hkf
  have vk : ∀ p, PE (X.suite a ((a, oe) :: pn)) (.Name kn p) (tVar j) := fun p => pe_var hk hkv kdb kcd
  have ve : ∀ p, PE (X.suite a ((a, oe) :: pn)) (.Name n p) (tVar i) := fun p => pe_var hN hv hdb hcd
  have Pc := pe_bm (X := X.suite a ((a, oe) :: pn)) (e := .Constant (.bool true) c3 c4) (es := []) PySem.F.plainAttrs_list PySem.F.slot_list_count PySem.F.type_list_count mt_lcountF (vk c1) (pa_cons pe_bl pa_nil) (apos := c2) (cpos := c5) (by rfl) (by rfl) l1 (by rfl) (by rfl)
  have Pi := pe_bm (X := X.suite a ((a, oe) :: pn)) (e := .Constant (.bool true) f3 f4) (es := []) PySem.F.plainAttrs_list PySem.F.slot_list_index PySem.F.type_list_index mt_index (vk f1) (pa_cons pe_bl pa_nil) (apos := f2) (cpos := f5) (by rfl) (by rfl) l2 (by rfl) (by rfl)
  have Pv := pe_callB (X := X.suite a ((a, oe) :: pn)) (p := d1) (pos := d4) (call_isX hz hf) hg hm boot_isi (pa_cons (ve d2) (pa_cons (pe_bltn (v := .ty "ValueError") (pos := d3) hgV hmV boot_VE rfl (by decide) (by decide)) pa_nil))
  have Pt := pw_and (pos := d5) (pt_cmpR (X := X.suite a ((a, oe) :: pn)) (pos := c8) op_eq Pc (pe_int (i := 1) (j := c6) (pos := c7)) (nomark _)) (pw_and1 (pos := d5) (pt_val Pv))
  have P2 := ps_ret (pos := rp) (pe_tup (x1 := kk) (pos := tp) (pa_cons (pe_ifExp (pos := f8) Pt.pt Pi (pe_int (i := N) (j := f6) (pos := f7))) (pa_cons (pe_xfD (pos := vp) hz hf (ve ep)) pa_nil)))
  refine (pss_cons P1 (pss_one P2)).imp fun D σ H h => ?_
  obtain ⟨C, dd, fs, kb, y, hjl, hi, rfl, rfl, T, ed, hkb, hkV, hy, hsz, h⟩ := h
  refine ⟨C, dd, fs, kb, hi, rfl, rfl, T, ed, hkb, by rw [List.length_map]; exact hsz, fun l hl => ?_⟩
  have hj : (σ.set j (some (V.ref l)))[j]? = some (some (V.ref l)) := List.getElem?_set_self hjl
  have hi2 : (σ.set j (some (V.ref l)))[i]? = some (some (V.ref a)) := by rw [List.getElem?_set_ne (Ne.symm hij)]; exact hi
  have bs : SqL X.K (upd H l (.lst (ns.map fun x => V.bl (kb x)))) l (ns.map fun x => V.bl (kb x)) := SqL.of upd_same
  have fl : (ns.map fun x => V.bl (kb x)).all flatV = true := by
    rw [List.all_map]
    exact List.all_eq_true.mpr fun x _ => rfl
  have ed2 : (upd H l (.lst (ns.map fun x => V.bl (kb x)))) dd = some (.xd fs) := by rw [upd_ne (ne_of_none ed hl)]; exact ed
  have fin : ∀ z, z = kix (ns.map kb) N → tCons (fun σ H Q => ∃ C_1, Value.ref C = Value.ref C_1 ∧ XIs X.K C_1 ∧ tXf a (Value.ref C) (some dd) C_1 (Str.ofString "value") (tVar i) σ H Q) tNil (σ.set j (some (V.ref l))) (upd H l (.lst (ns.map fun x => V.bl (kb x))))
      (fun xs H1 => (V.int z :: xs).length ≤ sizeLine ∧ ∀ p, H1 p = none → D.rt (.ref p) (upd H1 p (.tup (V.int z :: xs)))) := fun z ez => by
    subst ez
    exact ⟨C, rfl, T, _, hi2, rfl, rfl, dd, fs, y, rfl, ed2, hy, (by show 2 ≤ sizeLine; decide), fun t ht => h l t hl ht⟩
  have ct : ∀ Q : Bool → Prop, Q (decide ((ns.map kb).count true = 1)) → Q (decide (V.int ((ns.map fun x => V.bl (kb x)).countP (fun z => eqV z (.bl true)) : Nat) = V.int 1)) := fun Q q => by
    rw [countP_bl]
    have e : decide (V.int ((ns.map kb).count true : Nat) = V.int 1) = decide ((ns.map kb).count true = 1) := by
      by_cases hc : (ns.map kb).count true = 1
      · rw [hc]; rfl
      · rw [decide_eq_false hc, decide_eq_false]
        intro z
        injection z with z
        exact hc (by exact_mod_cast z)
    rw [e]; exact q
  refine ⟨.ref l, hj, .inl ⟨rfl, _, bs⟩, l, _, .bl true, rfl, rfl, bs, rfl, fl, rfl, _, rfl, ?_⟩
  refine ct (fun c => if c = true then _ else _) ?_
  by_cases hc : (ns.map kb).count true = 1
  · rw [decide_eq_true hc, if_pos rfl]
    refine ⟨_, hi2, _, _, true, C, dd, fs, rfl, fun u r => r, rfl, rfl, T, ed2, hkV, true, rfl, ?_⟩
    obtain ⟨x1, x2⟩ := idx_bl (ns.map kb) (List.count_pos_iff.mp (by rw [hc]; decide))
    have mm : (ns.map fun x => V.bl (kb x)) = (ns.map kb).map V.bl := by rw [List.map_map]; rfl
    refine ⟨.ref l, hj, .inl ⟨rfl, _, bs⟩, l, _, .bl true, (ns.map kb).idxOf true, .bl true, rfl, rfl, bs, rfl, fl, by rw [mm, List.getElem?_map, x1]; rfl, rfl, fun m z hm hz => ?_, fin _ (by unfold kix; rw [if_pos hc])⟩
    rw [mm, List.getElem?_map] at hz
    cases q : (ns.map kb)[m]? with
    | none => rw [q] at hz; cases hz
    | some b =>
      rw [q] at hz
      cases hz
      rw [x2 m b hm q]; rfl
  · rw [decide_eq_false hc, if_neg Bool.false_ne_true]
    refine fin N ?_
    unfold kix
    rw [if_neg hc]
/-! ### try: body, except the base class as n: the kinds -/
/-- what the written part says of the classes that fly -/
structure ExT (K : PySem.W.Frag) (mg : Str → Option Value) (cE : Str) (cs ns : List Str) : Prop where
  base : ∃ B, mg cE = some (.ref B) ∧ ∀ c ∈ cs, ∃ C, mg c = some (.ref C) ∧ XIs K C ∧ PySem.W.exmOne K (.ref C) (.ref B) = some true ∧ PySem.W.kitOne K (.ref C) (.type "ValueError") = some true ∧
    ∀ x ∈ ns, ∃ D, mg x = some (.ref D) ∧ PySem.W.kitOne K (.ref C) (.ref D) = some (decide (c = x))
def sTry (i j : Nat) (cs ns : List Str) (N : Int) (m : M3) : M3 := fun e => match m e with
  | .exc c [(f, d)] => if c ∈ cs ∧ f = ("value" : Str) ∧ i < e.length ∧ j < e.length then .rt (.tup [.int (kix (ns.map fun x => decide (c = x)) N), d]) (List.replicate e.length Option.none) else .stk
  | .exc _ _ => .stk
  | o => o
theorem rl_blank {W : Kx} {g : Gh} {F H : Hp} {mk : List Kd} {σ : L2.St} {n : Nat} (fr : Fr3 g F H) (hn : n ≤ σ.length) : Rl W [] g F mk (List.replicate n Option.none) (fun _ => []) σ H where
  fr := fr
  len := by rw [List.length_replicate]; exact hn
  var := fun i d h => by
    rw [List.getElem?_replicate] at h
    split at h <;> cases h
  emp := fun _ _ => rfl
  nd := fun _ => .nil
  dj := fun _ _ _ _ h => by cases h
  own := fun _ _ h => by cases h
  pin := fun _ h => by cases h
theorem ResK.flatK {W : Kx} {io : List Nat} {g : Gh} {F H : Hp} {mk : List Kd} {k : Kd} {d : D} {e : Env3} {σ : L2.St} {v : V} (hd : (match d with | .lst _ => false | .dic _ _ => false | .ins _ _ _ => false | _ => true) = true) (r : ResK W io g F mk .fr d e σ v H) : ResK W io g F mk k d e σ v H := by
  obtain ⟨F1, rt1, rs, h1, l1, kk, n, o⟩ := r.ex
  exact ⟨F1, rt1, [], h1, l1, RepK.flat_of hd kk.1, .nil, fun p hp => by cases hp⟩
section
variable {X : Cx} {E : WX} {mk : List Kd} {W : Kx} {kr : Kd}
theorem sv_try {cE n kn : Str} {es : List Expr} {body : List Stmt} {m : M3} (i j : Nat) (cs ns : List Str) {N : Int}
    {np kp lp ap c1 c2 c4 c5 c7 c8 d1 d2 d3 d4 d5 f1 f2 f4 f5 f7 f8 ep vp tp rp pos pos' : Pos} {c3 c6 f3 f6 kk : Nat} (T : ExT X.K X.mg cE cs ns) (tk : Takes X E)
    (hb : ∀ (W : WX) (pn : List (Addr × Obj)) (xe : Value → Shared → Prop), Takes (X.tr pn xe) W → PassesOwn (model X.prog X.w) X.A X.env xe → BV (X.tr pn xe) [] W mk kr body m)
    (hes : IsaL n es ns) (hc : Clss X ns) (hgE : Gl X cE) (hg : Gl X "isinstance") (hm : X.mg "isinstance" = none) (hgV : Gl X "ValueError") (hmV : X.mg "ValueError" = none)
    (hst : X.stack = X.env :: X.outer := by rfl) (hfr : X.env.frame = some X.env.locals := by rfl) (hln : X.env.kindOf n = some .local := by rfl) (hdE : (cE == ("__debug__" : Str)) = false := by decide)
    (hND : X.N.Nodup := by assumption) (hij : i ≠ j := by decide) (hN : X.N[i]? = some n := by rfl) (hv : Vis X.env.scope n := by first | exact Or.inl rfl | exact Or.inr (Or.inl rfl) | exact Or.inr (Or.inr rfl)) (hdb : (n == ("__debug__" : Str)) = false := by decide) (hcd : (n == ("__classdict__" : Str)) = false := by decide)
    (hk : X.N[j]? = some kn := by rfl) (hkv : Vis X.env.scope kn := by first | exact Or.inl rfl | exact Or.inr (Or.inl rfl) | exact Or.inr (Or.inr rfl)) (hkl : Loc X.env.scope kn := by first | exact Or.inl rfl | exact Or.inr rfl) (hkf : X.fn kn = true ∨ X.env.scope.names.lookup kn = some .local := by first | exact .inl rfl | exact .inr rfl)
    (kdb : (kn == ("__debug__" : Str)) = false := by decide) (kcd : (kn == ("__classdict__" : Str)) = false := by decide)
    (hs : swapsWith (.List es lp) (some (.Name kn kp)) ap.line X.env = pure false := by rfl) (l1 : (c2.endLine == c5.line) = true := by rfl) (l2 : (f2.endLine == f5.line) = true := by rfl) (hns : ns.length ≤ sizeLine := by decide) :
    SV X [] E mk kr (.Try body [.ExceptHandler (some (.Name cE np)) (some n) [.Assign [.Name kn kp] (.List es lp) ap, .Return (some (.Tuple [.IfExp (.BoolOp .And [.Compare (.Call (.Attribute (.Name kn c1) "count" c2) [.Constant (.bool true) c3 c4] [] c5) [.Eq] [.Constant (.int 1) c6 c7] c8,
      .Call (.Name "isinstance" d1) [.Name n d2, .Name "ValueError" d3] [] d4] d5) (.Call (.Attribute (.Name kn f1) "index" f2) [.Constant (.bool true) f3 f4] [] f5) (.Constant (.int N) f6 f7) f8, .Attribute (.Name n ep) "value" vp] kk tp)) rp] pos'] [] [] pos) (sTry i j cs ns N m) := by
  obtain ⟨B, hB, T⟩ := T.base
  refine (ps_try_as (i := i) (c := .ref B) (tb := fun W => tS (kx X) [] W mk kr m) (ts := fun a cls d => tSuite X.K X.mg cls d a i j ns N) hst hfr hND hN hln ⟨hgE, hdE, .inl hB⟩ tk hb
    fun a oe cls d pn hz hf => suite_ok hz hf hes hc hND hij hN hv hdb hcd hk hkv hkl hkf kdb kcd hg hm hgV hmV hs l1 l2).imp fun D σ H h => ?_
  obtain ⟨g, F, e, rt, l, h⟩ := h
  refine ⟨g, F, e, rt, l, ?_⟩
  unfold sTry at h
  cases q : m e with
  | nx e1 => rw [q] at h; exact h
  | bk e1 => rw [q] at h; exact h
  | ct e1 => rw [q] at h; exact h
  | rt d e1 => rw [q] at h; exact h
  | stk => rw [q] at h; exact h
  | exc c fs =>
    rw [q] at h
    split at h
    · rename_i heq; cases heq
      rename_i f d
      split at h
      · rename_i hc2
        obtain ⟨hcs, rfl, hie, hje⟩ := hc2
        obtain ⟨C', hC', XI, xm, kV, kall⟩ := T c hcs
        intro σ1 hl1 C a σ' H' F' vs hC hl hs2 fr hx rx
        have eC : C' = C := by
          rw [show X.mg _ = some (.ref C) from hC] at hC'
          cases hC'
          rfl
        subst eC
        obtain ⟨v, vs', rfl, rv, rvs⟩ : ∃ v vs', vs = v :: vs' ∧ Rep (kx X) F' d v ∧ vs' = [] := by
          simp only [List.map_cons, List.map_nil, RepL] at rx
          obtain ⟨v, w, e1, r1, e2⟩ := rx
          exact ⟨v, w, e1, r1, e2⟩
        subst rvs
        refine ⟨true, xm, fun _ a' na => ⟨_, a, _, fun x => decide (c = x), v, ?_, ?_, rfl, rfl, XI, hx, fun x hx2 D hD => ?_, kV, ?_, hns, fun lp t hl2 ht => ?_⟩, fun z => by cases z⟩
        · rw [List.length_set, hl, hl1]; exact Nat.lt_of_lt_of_le hje l.len
        · rw [List.getElem?_set_self]
          rw [hl, hl1]
          exact Nat.lt_of_lt_of_le hie l.len
        · obtain ⟨D', hD', k⟩ := kall x hx2
          rw [hD] at hD'; cases hD'
          exact k
        · rfl
        · have l0 : Rl (kx X) [] g F' mk (List.replicate e.length Option.none) (fun _ => []) σ' (upd H' lp (.lst (ns.map fun x => V.bl (decide (c = x))))) := rl_blank (fr.fresh hl2) (by rw [hl, hl1]; exact l.len)
          exact (l0.pureK (z := .tup [.int (kix (ns.map fun x => decide (c = x)) N), d]) fun v H2 r => h v σ' H2 (by rw [hl, hl1]) (.res ((r.mono hs2).flatK rfl))).tup l0.fr.sub ht (.cons Rep.int (.cons rv .nil))
      · exact h.elim
    · exact h.elim
    · rename_i h1 h2
      exact absurd rfl (h2 _ _)
end
/-! ### the base class's own __init__, raise -/
def spXI (K : PySem.W.Frag) : Sp := fun vs H Q _ => ∃ (a C : Addr) (y : V), vs = [.ref a, y] ∧ OexC K C ∧ PySem.W.findIn K (.ref C) "value" = some none ∧ H a = some (exo a C none) ∧
  ∀ dx, H dx = none → dx ≠ a → Q .non (upd (upd H dx (exd dx [("value", y)])) a (exo a C (some dx)))
theorem fn_init {P : Program} {w : World} {K : PySem.W.Frag} {mg : Str → Option Value} {base : Heap} {x qual : Str} {st : Stmt} {f : Addr} {fd : FuncData} {p1 p2 p3 p4 : Pos} {dvs : List V} {kws : List (Str × V)} (Fn : FunD K x qual (defArgs st) (defBody st) (defScope st) dvs kws f fd)
    (S : FnScope ["self", "value"] ["self", "value"] (defScope st)) (hb : defBody st = [.Assign [.Attribute (.Name "self" p1) "value" p2] (.Name "value" p3) p4]) (h1 : (defScope st).names.lookup ("self" : Str) = some .local) (h2 : (defScope st).names.lookup ("value" : Str) = some .local) :
    FnOk P w K mg base (L2.CX P w) 1 f fd ["self", "value"] (spXI K) := by
  refine Fn.ok S (fun vs H Q E h => ?_) fun cdv A outer s H vs Q E hr h => ?_
  · obtain ⟨a, C, y, rfl, _⟩ := h
    rfl
  · obtain ⟨a, C, y, rfl, T, hno, ea, h⟩ := h
    rw [hb]
    refine ⟨_, pss_one (ps_ost (pe_var (i := 0) rfl (.inl h1)) (pe_var (i := 1) rfl (.inl h2))), ?_⟩
    refine ⟨y, rfl, .ref a, rfl, a, C, rfl, T, hno, .inl ⟨ea, fun dx hd hne => ?_⟩⟩
    exact h dx hd hne
/-- a class that may be raised, by its name -/
structure XRs (P : Program) (w : World) (K : PySem.W.Frag) (mg : Str → Option Value) (base : Heap) (c : Str) : Prop where
  ex : ∃ (C fI : Addr) (fd : FuncData), mg c = some (.ref C) ∧ OexC K C ∧ PySem.W.findIn K (.ref C) "__init__" = some (some (.ref fI)) ∧ PySem.W.typeIn K (.ref fI) = some (.type "function") ∧ PySem.W.findIn K (.ref C) "value" = some none ∧
    FnOk P w K mg base (L2.CX P w) 1 fI fd ["self", "value"] (spXI K) ∧ Binds K fd ["self", "value"] []
def sRaise (c : Str) (m : M L3.D) : M3 := fun e => (m e).st fun d _ => .exc c [("value", d)]
theorem passes_none {X : Cx} {W : WX} (tk : Takes X W) : Passes (L2.CX X.prog X.w) X (fun _ _ _ => False) := fun pins σ H s e s' I c => by
  refine tk e s' (XE.of_call (W := W) (E := fun _ _ _ => False) (σ := σ) (H := H) (pins := pins) I (fun _ _ _ h => h.elim) c)
section
variable {X : Cx} {io : List Nat} {E : WX} {mk : List Kd} {kr : Kd} {x : Str} {e0 : Expr} {m : M L3.D} {p pos pos2 : Pos} {k : Nat}
theorem sv_raise (R : XRs X.prog X.w X.K X.mg X.base x) (hr : Room k X.A) (hc : X.calm = true) (tk : Takes X E) (hg : Gl X x) (he : EV X io E mk e0 m .fr) (hk : 2 ≤ k := by decide) (hdb : (x == ("__debug__" : Str)) = false := by decide)
    (hs : starEach [e0] X.env = [(false, eval e0 X.env)] := by rfl) : SV X io E mk kr (.Raise (some (.Call (.Name x p) [e0] [] pos)) none pos2) (sRaise x m) := by
  obtain ⟨C, fI, fd, hm, T, iC, tI, hno, F, b⟩ := R.ex
  refine (ps_raise hc tk (pmk_oex T iC tI F (hr.mono hk) b .nil (passes_none tk) hg hm (pa_cons he pa_nil hs) hdb hs (by rfl))).imp fun D σ H h => ?_
  obtain ⟨g, F1, e, rt, l, h⟩ := h
  refine ⟨g, F1, e, rt, l, ?_⟩
  unfold sRaise at h
  cases q : m e with
  | exc c fs => rw [q] at h; exact h σ rfl
  | stk => rw [q] at h; exact h
  | ok d e1 =>
    rw [q] at h
    intro v H1 r
    obtain ⟨F2, rt2, rs, h1, l2, kk, n, o⟩ := r.ex
    refine ⟨by show 1 ≤ 1000; decide, fun a ha => ⟨a, C, v, rfl, T, hno, upd_same, fun dx hd hne => ⟨rfl, dx, _, upd_same, by rw [upd_ne hne]; exact upd_same, ?_, ?_⟩⟩⟩
    · rwa [upd_ne hne] at hd
    · have hd1 : H1 dx = none := by rwa [upd_ne hne] at hd
      have eH : upd (del (upd (upd (upd H1 a (exo a C none)) dx (exd dx [("value", v)])) a (exo a C (some dx))) a) dx (.xd [("value", v)]) = upd H1 dx (.xd [("value", v)]) := by
        funext b
        by_cases hb : b = dx
        · subst hb; rw [upd_same, upd_same]
        · rw [upd_ne hb, upd_ne hb]
          by_cases hba : b = a
          · subst hba; rw [del_same, ha]
          · rw [del_ne hba, upd_ne hba, upd_ne hb, upd_ne hba]
      rw [eH]
      exact h σ rfl C dx σ _ F2 [v] hm rfl h1 (l2.fr.fresh hd1) upd_same (.cons kk.1 .nil)
end
def AllGl (X : Cx) : List Str → Prop
  | [] => True
  | x :: r => (Gl X x ∧ (x == ("__debug__" : Str)) = false) ∧ AllGl X r
theorem AllGl.h {X : Cx} : ∀ {ns : List Str}, AllGl X ns → ∀ x ∈ ns, Gl X x ∧ (x == ("__debug__" : Str)) = false
  | [], _, _, h => by cases h
  | y :: r, h, x, hx => by
    rcases List.mem_cons.mp hx with e | e
    · subst e; exact h.1
    · exact h.2.h x e
theorem clss_of {X : Cx} {cE c : Str} {cs ns : List Str} (T : ExT X.K X.mg cE (c :: cs) ns) (h : AllGl X ns) : Clss X ns := fun x hx => by
  obtain ⟨B, _, T⟩ := T.base
  obtain ⟨C, _, _, _, _, T⟩ := T c (.head _)
  obtain ⟨D, hD, _⟩ := T x hx
  exact ⟨(h.h x hx).1, (h.h x hx).2, D, hD⟩
/-! ### the law, from the outside -/
def spLaw (K : PySem.W.Frag) : Sp := fun vs H Q _ => ∃ (a : Addr) (ns : List Int), vs = [.ref a] ∧ SqL K H a (ns.map V.int) ∧ ns.length ≤ 63 ∧ ∀ H', Q (.bl true) H'
theorem fn_law {P : Program} {w : World} {K : PySem.W.Frag} {mg : Str → Option Value} {base : Heap} {CX : CXT} {k : Nat} {f : Addr} {fd : FuncData} {ps : List Str} {den : List D → FR} (F : FnOk P w K mg base CX k f fd ps (spP ⟨K, mg⟩ 1 .fr den)) (h : ∀ ns : List Int, ns.length ≤ 63 → den [.scr ns] = .ok (.bl true)) :
    FnOk P w K mg base CX k f fd ps (spLaw K) := F.imp fun vs H Q E ⟨a, ns, e, hs, hl, q⟩ => by
  subst e
  refine ⟨H, [.scr ns], fun b o z => z, ?_, rfl, ?_⟩
  · refine .cons ?_ .nil
    simp only [Rep]
    exact ⟨a, rfl, hs⟩
  · rw [h ns hl]
    intro v H' F' rs h1 h2 h3 h4 k nd o
    rw [Rep.of_bl k.1]
    exact q H'
def allIn {α : Type} (P : α → Prop) : List α → Prop
  | [] => True
  | x :: r => P x ∧ allIn P r
theorem forall_mem_list {α : Type} {P : α → Prop} : ∀ {l : List α}, (∀ x ∈ l, P x) = allIn P l
  | [] => propext ⟨fun _ => trivial, fun _ x h => by cases h⟩
  | x :: r => propext ⟨fun h => ⟨h x (.head _), (forall_mem_list (l := r)).mp fun y hy => h y (.tail _ hy)⟩, fun h y hy => by
    rcases List.mem_cons.mp hy with e | e
    · subst e; exact h.1
    · exact (forall_mem_list (l := r)).mpr h.2 y e⟩
end L3

noncomputable section
namespace L3
open PySem PySem.Spec L2
open PyProof.Rows hiding St

/-! # L3N: what is left to show, walked by simp -/
abbrev KX := Str → List (Str × D) → Prop
/-- a sign that keeps simp out of what follows -/
inductive Tg {α : Type} (a : α) : Type where
  | mk : Tg a
def Ok {α : Type} (r : R α) (K : α → Env3 → Prop) (X : KX) (_t : Tg (K, X) := .mk) : Prop := match r with
  | .ok a e => K a e
  | .exc c fs => X c fs
  | .stk => False
def Op {α : Type} (o : Option α) (K : α → Prop) (_t : Tg K := .mk) : Prop := match o with
  | some a => K a
  | none => False
def OkF (r : FR) (K : D → Prop) (X : KX) (_t : Tg (K, X) := .mk) : Prop := match r with
  | .ok d => K d
  | .exc c fs => X c fs
  | .stk => False
def OkR (r : FRr) (K : D → List D → Prop) (_t : Tg K := .mk) : Prop := match r with
  | .ok d row => K d row
  | .stk => False
structure Kt where
  nx : Env3 → Prop
  rt : D → Env3 → Prop
  bk : Env3 → Prop
  ct : Env3 → Prop
  ex : KX
/-- what follows -/
def Kt.sq (k : Kt) (f : Env3 → Prop) : Kt := { k with nx := f }
/-- inside a loop -/
def Kt.lp (k : Kt) (f g : Env3 → Prop) : Kt := { k with nx := f, ct := f, bk := g }
theorem sq_nx {k : Kt} {f : Env3 → Prop} : (k.sq f).nx = f := rfl
theorem sq_rt {k : Kt} {f : Env3 → Prop} : (k.sq f).rt = k.rt := rfl
theorem sq_bk {k : Kt} {f : Env3 → Prop} : (k.sq f).bk = k.bk := rfl
theorem sq_ct {k : Kt} {f : Env3 → Prop} : (k.sq f).ct = k.ct := rfl
theorem sq_ex {k : Kt} {f : Env3 → Prop} : (k.sq f).ex = k.ex := rfl
theorem lp_nx {k : Kt} {f g : Env3 → Prop} : (k.lp f g).nx = f := rfl
theorem lp_rt {k : Kt} {f g : Env3 → Prop} : (k.lp f g).rt = k.rt := rfl
theorem lp_bk {k : Kt} {f g : Env3 → Prop} : (k.lp f g).bk = g := rfl
theorem lp_ct {k : Kt} {f g : Env3 → Prop} : (k.lp f g).ct = f := rfl
theorem lp_ex {k : Kt} {f g : Env3 → Prop} : (k.lp f g).ex = k.ex := rfl
def Po (o : O3) (k : Kt) (_t : Tg k := .mk) : Prop := match o with
  | .nx e => k.nx e
  | .rt d e => k.rt d e
  | .bk e => k.bk e
  | .ct e => k.ct e
  | .exc c fs => k.ex c fs
  | .stk => False
/-- a bool datum -/
def OpB (d : D) (K : Bool → Prop) (_t : Tg K := .mk) : Prop := match d with
  | .bl b => K b
  | _ => False
section
variable {α β : Type} {K : D → Env3 → Prop} {KB : Bool → Env3 → Prop} {KL : List D → Env3 → Prop} {KO : Option Int → Env3 → Prop} {X : KX} {k : Kt} {e : Env3} {m ma mb mc : M D} {ms : M (List D)} {t ta tb : M Bool} {oa ob oc : Op3} {a b : M3}
theorem Ok_ext {r : R α} {K K' : α → Env3 → Prop} {X : KX} (h : ∀ a e, K a e = K' a e) : Ok r K X = Ok r K' X := by
  have e : K = K' := by funext a e; exact h a e
  rw [e]
theorem Op_ext {r : Option α} {K K' : α → Prop} (h : ∀ a, K a = K' a) : Op r K = Op r K' := by
  have e : K = K' := by funext a; exact h a
  rw [e]
theorem OpB_ext {r : D} {K K' : Bool → Prop} (h : ∀ a, K a = K' a) : OpB r K = OpB r K' := by
  have e : K = K' := by funext a; exact h a
  rw [e]
theorem Ok_ok {a : α} {K : α → Env3 → Prop} : Ok (.ok a e) K X = K a e := rfl
theorem Ok_opt {o : Option α} {K : α → Env3 → Prop} : Ok (R.opt o e) K X = Op o fun a => K a e := by cases o <;> rfl
theorem Ok_bind {r : R α} {f : α → Env3 → R β} {K : β → Env3 → Prop} : Ok (r.bind f) K X = Ok r (fun a e => Ok (f a e) K X) X := by cases r <;> rfl
theorem Op_some {a : α} {K : α → Prop} : Op (some a) K = K a := rfl
theorem Op_none {K : α → Prop} : Op none K = False := rfl
theorem Op_ite {c : Prop} [Decidable c] {a b : Option α} {K : α → Prop} : Op (if c then a else b) K = if c then Op a K else Op b K := by split <;> rfl
theorem Op_map {o : Option α} {f : α → β} {K : β → Prop} : Op (o.map f) K = Op o fun a => K (f a) := by cases o <;> rfl
theorem Op_bindO {o : Option α} {f : α → Option β} {K : β → Prop} : Op (o.bind f) K = Op o fun a => Op (f a) K := by cases o <;> rfl
theorem OpB_bl {b : Bool} {K : Bool → Prop} : OpB (.bl b) K = K b := rfl
theorem Ok_var {i : Nat} : Ok (mVar i e) K X = Op (e[i]?).join fun d => K d e := by
  unfold mVar
  cases e[i]? with
  | none => rfl
  | some o => cases o <;> rfl
theorem Ok_C {d : D} : Ok (mC d e) K X = K d e := rfl
theorem opd_ex {d : D} : opd .ex d e = some d := rfl
theorem opd_sl {i : Nat} {d : D} : opd (.sl i) d e = (e[i]?).join.map D.un := rfl
theorem un_lst {l : List D} : (D.lst l).un = .lst l := rfl
theorem un_tup {l : List D} : (D.tup l).un = .tup l := rfl
theorem un_int {l : Int} : (D.int l).un = .int l := rfl
theorem un_str {l : List Nat} : (D.str l).un = .str l := rfl
theorem un_bl {l : Bool} : (D.bl l).un = .bl l := rfl
theorem un_non : D.non.un = .non := rfl
theorem un_dic {l k : List D} : (D.dic l k).un = .dic l k := rfl
theorem un_ins {c : Str} {l : List Str} {k : List D} : (D.ins c l k).un = .ins c l k := rfl
theorem un_scr {l : List Int} : (D.scr l).un = .scr l := rfl
theorem un_nd {d : List D} : (D.nd d).un = .nd d := rfl
theorem un_fz {d : D} : (D.fz d).un = d := rfl
theorem Ok_m2 {f : D → D → Option D} : Ok (m2 oa ob f ma mb e) K X = Ok (ma e) (fun da e1 => Ok (mb e1) (fun db e2 => Op (opd oa da e2) fun x => Op (opd ob db e2) fun y => Op (f x y) fun z => K z e2) X) X := by
  unfold m2
  rw [Ok_bind]; refine Ok_ext fun da e1 => ?_
  rw [Ok_bind]; refine Ok_ext fun db e2 => ?_
  cases opd oa da e2 <;> cases opd ob db e2 <;> first | rfl | exact Ok_opt
theorem Ok_B : Ok (mB m e) KB X = Ok (m e) (fun d e1 => OpB d fun b => KB b e1) X := by
  unfold mB
  rw [Ok_bind]; refine Ok_ext fun d e1 => ?_
  cases d <;> rfl
theorem Ok_Not : Ok (mNot t e) KB X = Ok (t e) (fun b e1 => KB (!b) e1) X := by
  unfold mNot; rw [Ok_bind]; rfl
theorem Ok_AndT : Ok (mAndT ta tb e) KB X = Ok (ta e) (fun b e1 => if b = true then Ok (tb e1) KB X else KB false e1) X := by
  unfold mAndT; rw [Ok_bind]; refine Ok_ext fun b e1 => ?_; cases b <;> rfl
theorem Ok_OrT : Ok (mOrT ta tb e) KB X = Ok (ta e) (fun b e1 => if b = true then KB true e1 else Ok (tb e1) KB X) X := by
  unfold mOrT; rw [Ok_bind]; refine Ok_ext fun b e1 => ?_; cases b <;> rfl
theorem Ok_And : Ok (mAnd ma mb e) K X = Ok (ma e) (fun d e1 => OpB d fun b => if b = true then Ok (mb e1) K X else K (.bl false) e1) X := by
  unfold mAnd; rw [Ok_bind, Ok_B]; refine Ok_ext fun d e1 => ?_; refine OpB_ext fun b => ?_; cases b <;> rfl
theorem Ok_Or : Ok (mOr ma mb e) K X = Ok (ma e) (fun d e1 => OpB d fun b => if b = true then K (.bl true) e1 else Ok (mb e1) K X) X := by
  unfold mOr; rw [Ok_bind, Ok_B]; refine Ok_ext fun d e1 => ?_; refine OpB_ext fun b => ?_; cases b <;> rfl
theorem Ok_NotV : Ok (mNotV m e) K X = Ok (m e) (fun d e1 => OpB d fun b => K (.bl (!b)) e1) X := by
  unfold mNotV; rw [Ok_bind, Ok_B]; rfl
theorem Ok_If : Ok (mIf t ma mb e) K X = Ok (t e) (fun b e1 => if b = true then Ok (ma e1) K X else Ok (mb e1) K X) X := by
  unfold mIf; rw [Ok_bind]; refine Ok_ext fun b e1 => ?_; cases b <;> rfl
theorem Ok_Nil : Ok (mNil e) KL X = KL [] e := rfl
theorem Ok_Cons : Ok (mCons m ms e) KL X = Ok (m e) (fun d e1 => Ok (ms e1) (fun ds e2 => KL (d :: ds) e2) X) X := by
  unfold mCons; rw [Ok_bind]; refine Ok_ext fun d e1 => ?_; rw [Ok_bind]; rfl
theorem Ok_Tup : Ok (mTup ms e) K X = Ok (ms e) (fun ds e1 => K (.tup ds) e1) X := by unfold mTup; rw [Ok_bind]; rfl
theorem Ok_Lst : Ok (mLst ms e) K X = Ok (ms e) (fun ds e1 => K (.lst ds) e1) X := by unfold mLst; rw [Ok_bind]; rfl
theorem opds_nil {ds : List D} : opds [] ds e = some [] := by cases ds <;> rfl
theorem opds_cons {o : Op3} {os : List Op3} {d : D} {ds : List D} : opds (o :: os) (d :: ds) e = (opd o d e).bind fun x => (opds os ds e).bind fun xs => some (x :: xs) := rfl
theorem Ok_Fn {os : List Op3} {f : List D → Option D} : Ok (mFn os f ms e) K X = Ok (ms e) (fun ds e1 => Op (opds os ds e1) fun xs => Op (f xs) fun z => K z e1) X := by
  unfold mFn; rw [Ok_bind]; refine Ok_ext fun ds e1 => ?_; cases opds os ds e1 <;> first | rfl | exact Ok_opt
theorem Ok_FnN {os : List Op3} {f : List D → Option (List D)} : Ok (mFnN os f ms e) K X = Ok (ms e) (fun ds e1 => Op (opds os ds e1) fun xs => Op (f xs) fun z => K (.lst z) e1) X := by
  unfold mFnN; rw [Ok_bind]; refine Ok_ext fun ds e1 => ?_; cases opds os ds e1 <;> first | rfl | (rw [Op_some]; exact Ok_opt.trans Op_map)
theorem Ok_Call {den : List D → FR} : Ok (mCall den ms e) K X = Ok (ms e) (fun ds e1 => OkF (den ds) (fun d => K d e1) X) X := by
  unfold mCall; rw [Ok_bind]; refine Ok_ext fun ds e1 => ?_; cases den ds <;> rfl
/-- an own list in a slot -/
def OpL (o : Option (Option D)) (K : List D → Prop) (_t : Tg K := .mk) : Prop := match o with
  | some (some (.lst ds)) => K ds
  | _ => False
theorem OpL_some {ds : List D} {K : List D → Prop} : OpL (some (some (.lst ds))) K = K ds := rfl
theorem Ok_CallR {i : Nat} {den : List D → List D → FRr} : Ok (mCallR i den ms e) K X = Op (e[i]?).join fun _ => Ok (ms e) (fun ds e1 => OpL e1[i]? fun row => OkR (den row ds) fun d row' => K d (e1.set i (some (.lst row')))) X := by
  unfold mCallR
  rw [Ok_bind, Ok_var]; refine Op_ext fun _ => ?_
  rw [Ok_bind]; refine Ok_ext fun ds e1 => ?_
  cases e1[i]? with
  | none => rfl
  | some o =>
    cases o with
    | none => rfl
    | some d =>
      cases d with
      | lst row => simp only [OpL]; cases den row ds <;> rfl
      | _ => rfl
theorem Ok_Neg : Ok (mNeg m e) K X = Ok (m e) (fun d e1 => Op (match d with | .int i => some i | _ => none) fun i => K (.int (-i)) e1) X := by
  unfold mNeg; rw [Ok_bind]; refine Ok_ext fun d e1 => ?_; cases d <;> rfl
theorem Ok_NoI : Ok (mNoI e) KO X = KO none e := rfl
theorem Ok_SoI : Ok (mSoI m e) KO X = Ok (m e) (fun d e1 => Op (match d with | .int i => some i | _ => none) fun i => KO (some i) e1) X := by
  unfold mSoI; rw [Ok_bind]; refine Ok_ext fun d e1 => ?_; cases d <;> rfl
theorem Ok_Cut {lo hi : M (Option Int)} : Ok (mCut oa ma lo hi e) K X = Ok (ma e) (fun d e1 => Ok (lo e1) (fun l e2 => Ok (hi e2) (fun h e3 => Op (opd oa d e3) fun x => Op (dCut x l h) fun z => K z e3) X) X) X := by
  unfold mCut
  rw [Ok_bind]; refine Ok_ext fun d e1 => ?_
  rw [Ok_bind]; refine Ok_ext fun l e2 => ?_
  rw [Ok_bind]; refine Ok_ext fun h e3 => ?_
  cases opd oa d e3 <;> first | rfl | exact Ok_opt
theorem Ok_Chain {f g : D → D → Option D} : Ok (mChain oa ob oc f g ma mb mc e) K X = Ok (ma e) (fun da e1 => Ok (mb e1) (fun db e2 => Op (opd oa da e2) fun x => Op (opd ob db e2) fun y => Op (f x y) fun z => OpB z fun c =>
    if c = true then Ok (mc e2) (fun dc e3 => Op (opd ob db e3) fun y => Op (opd oc dc e3) fun z => Op (g y z) fun r => K r e3) X else K (.bl false) e2) X) X := by
  unfold mChain
  rw [Ok_bind]; refine Ok_ext fun da e1 => ?_
  rw [Ok_bind]; refine Ok_ext fun db e2 => ?_
  cases opd oa da e2 with
  | none => rfl
  | some x =>
    cases opd ob db e2 with
    | none => rfl
    | some y =>
      simp only [Op_some]
      cases f x y with
      | none => rfl
      | some z =>
        cases z with
        | bl c =>
          cases c with
          | false => rfl
          | true =>
            simp only [Op_some, OpB_bl, if_true]
            rw [Ok_bind]; refine Ok_ext fun dc e3 => ?_
            cases opd ob db e3 with
            | none => rfl
            | some y' =>
              cases opd oc dc e3 with
              | none => rfl
              | some z' => exact Ok_opt
        | _ => rfl
theorem Ok_isa {T : String} : Ok (mIsa T oa ma e) K X = Ok (ma e) (fun d e1 => Op (opd oa d e1) fun x => Op (dIsa T x) fun z => K z e1) X := by
  unfold mIsa; rw [Ok_bind]; refine Ok_ext fun d e1 => ?_; cases opd oa d e1 <;> first | rfl | exact Ok_opt
theorem Ok_isa2 {T U : String} : Ok (mIsa2 T U oa ma e) K X = Ok (ma e) (fun d e1 => Op (opd oa d e1) fun x => Op (dIsa2 T U x) fun z => K z e1) X := by
  unfold mIsa2; rw [Ok_bind]; refine Ok_ext fun d e1 => ?_; cases opd oa d e1 <;> first | rfl | exact Ok_opt
theorem Ok_ite {α : Type} {c : Prop} [Decidable c] {a b : R α} {K : α → Env3 → Prop} : Ok (if c then a else b) K X = if c then Ok a K X else Ok b K X := by split <;> rfl
theorem Ok_Mt {T : String} {os : List Op3} {f : D → List D → Option D} : Ok (mMt T oa os f ma ms e) K X = Ok (ma e) (fun da e1 => Op (opd oa da e1) fun x0 => if dTy T x0 = true then Ok (ms e1) (fun ds e2 => Op (opd oa da e2) fun x => Op (opds os ds e2) fun xs => Op (f x xs) fun z => K z e2) X else False) X := by
  unfold mMt; rw [Ok_bind]; refine Ok_ext fun da e1 => ?_
  cases opd oa da e1 with
  | none => rfl
  | some x0 =>
    simp only [Op_some]
    rw [Ok_ite, Ok_bind]
    congr 1
    refine Ok_ext fun ds e2 => ?_
    cases opd oa da e2 with
    | none => rfl
    | some x =>
      cases opds os ds e2 with
      | none => rfl
      | some xs => exact Ok_opt
/-! ### statements -/
theorem Po_nx : Po (.nx e) k = k.nx e := rfl
theorem Po_rt {d : D} : Po (.rt d e) k = k.rt d e := rfl
theorem Po_st {r : R α} {f : α → Env3 → O3} : Po (r.st f) k = Ok r (fun a e => Po (f a e) k) k.ex := by cases r <;> rfl
theorem Po_Skip : Po (sSkip e) k = k.nx e := rfl
theorem Po_Seq : Po (sSeq a b e) k = Po (a e) (k.sq fun e1 => Po (b e1) k) := by
  unfold sSeq; cases a e <;> rfl
theorem Po_Set {i : Nat} : Po (sSet i m e) k = Ok (m e) (fun d e1 => k.nx (e1.set i (some d))) k.ex := by unfold sSet; rw [Po_st]; rfl
theorem Po_Ret : Po (sRet m e) k = Ok (m e) k.rt k.ex := by unfold sRet; rw [Po_st]; rfl
theorem Po_RetN : Po (sRetN e) k = k.rt .non e := rfl
theorem Po_Bk : Po (sBk e) k = k.bk e := rfl
theorem Po_Ct : Po (sCt e) k = k.ct e := rfl
theorem Po_Expr : Po (sExpr m e) k = Ok (m e) (fun _ e1 => k.nx e1) k.ex := by unfold sExpr; rw [Po_st]; rfl
theorem Po_If : Po (sIf t a b e) k = Ok (t e) (fun c e1 => if c = true then Po (a e1) k else Po (b e1) k) k.ex := by
  unfold sIf; rw [Po_st]; refine Ok_ext fun c e1 => ?_; cases c <;> rfl
theorem Po_Asg {gf : D → Env3 → Option Env3} : Po (sAsg gf m e) k = Ok (m e) (fun d e1 => Op (gf d e1) k.nx) k.ex := by
  unfold sAsg; rw [Po_st]; refine Ok_ext fun d e1 => ?_; cases gf d e1 <;> rfl
theorem Po_Par {i j : Nat} : Po (sPar i j ms e) k = Ok (ms e) (fun ds e1 => Op (match ds with | [a, b] => some (a, b) | _ => none) fun p => k.nx ((e1.set i (some p.1)).set j (some p.2))) k.ex := by
  unfold sPar; rw [Po_st]; refine Ok_ext fun ds e1 => ?_
  split <;> first | rfl | (rename_i h; split <;> first | rfl | (rename_i h2; exact absurd rfl (h _ _)))
theorem Po_Aug {i : Nat} {f : D → D → Option D} : Po (sAug i f m e) k = Op (e[i]?).join fun x => Ok (m e) (fun d e1 => Op (f x d) fun z => k.nx (e1.set i (some z))) k.ex := by
  unfold sAug
  cases e[i]? with
  | none => rfl
  | some o =>
    cases o with
    | none => rfl
    | some x =>
      show Po ((m e).st _) k = _
      rw [Po_st]; simp only [Option.join_some, Op_some]; refine Ok_ext fun d e1 => ?_; cases f x d <;> rfl
theorem Po_For {src : M (List D)} {gf : D → Env3 → Option Env3} : Po (sFor src gf a e) k = Ok (src e) (fun ds e1 => Po (forD gf a ds e1) k) k.ex := by unfold sFor; rw [Po_st]
theorem Po_While {n : Nat} : Po (sWhile n t a e) k = Po (whD t a n e) k := rfl
theorem Po_Raise {c : Str} : Po (sRaise c m e) k = Ok (m e) (fun d _ => k.ex c [("value", d)]) k.ex := by unfold sRaise; rw [Po_st]; rfl
theorem Ok_Rng1 : Ok (mRng1 ms e) KL X = Ok (ms e) (fun ds e1 => Op (int1 ds) fun j => if inR j = true then KL (irange 0 j.toNat) e1 else False) X := by
  unfold mRng1; rw [Ok_bind]; refine Ok_ext fun ds e1 => ?_
  cases int1 ds with
  | none => rfl
  | some j => simp only [Op_some]; split <;> rfl
theorem Ok_Rng2 : Ok (mRng2 ms e) KL X = Ok (ms e) (fun ds e1 => Op (int2 ds) fun p => if inR p.1 = true ∧ inR p.2 = true then KL (irange p.1 (p.2 - p.1).toNat) e1 else False) X := by
  unfold mRng2; rw [Ok_bind]; refine Ok_ext fun ds e1 => ?_
  cases int2 ds with
  | none => rfl
  | some j => obtain ⟨i, j⟩ := j; simp only [Op_some]; split <;> rfl
theorem Ok_It : Ok (mIt m e) KL X = Ok (m e) (fun d e1 => Op (itemsD d) fun ds => KL ds e1) X := by
  unfold mIt; rw [Ok_bind]; refine Ok_ext fun d e1 => ?_; cases itemsD d <;> rfl
theorem Ok_ItL : Ok (mItL m e) KL X = Ok (m e) (fun d e1 => Op (match d with | .lst ds => some ds | _ => none) fun ds => KL ds e1) X := by
  unfold mItL; rw [Ok_bind]; refine Ok_ext fun d e1 => ?_; cases d <;> rfl
theorem Po_Mut {i : Nat} {f : List D → List D → Option (List D)} : Po (sMut i f ms e) k = OpL e[i]? fun _ => Ok (ms e) (fun ds e1 => OpL e1[i]? fun xs => Op (f xs ds) fun ys => k.nx (e1.set i (some (.lst ys)))) k.ex := by
  unfold sMut
  cases e[i]? with
  | none => rfl
  | some o =>
    cases o with
    | none => rfl
    | some d =>
      cases d with
      | lst row =>
        simp only [OpL]
        rw [Po_st]; refine Ok_ext fun ds e1 => ?_
        cases e1[i]? with
        | none => rfl
        | some o =>
          cases o with
          | none => rfl
          | some d =>
            cases d with
            | lst xs => simp only [OpL]; cases f xs ds <;> rfl
            | _ => rfl
      | _ => rfl
theorem Po_Store {i : Nat} {mv mi : M D} : Po (sStore i mv mi e) k = Ok (mv e) (fun d e1 => OpL e1[i]? fun _ => Ok (mi e1) (fun x e2 => Op (match x with | .int j => some j | _ => none) fun j => OpL e2[i]? fun xs => Op (ixN xs.length j) fun j => k.nx (e2.set i (some (.lst (xs.set j d))))) k.ex) k.ex := by
  unfold sStore
  rw [Po_st]; refine Ok_ext fun d e1 => ?_
  cases e1[i]? with
  | none => rfl
  | some o =>
    cases o with
    | none => rfl
    | some d0 =>
      cases d0 with
      | lst row =>
        simp only [OpL]
        rw [Po_st]; refine Ok_ext fun x e2 => ?_
        cases x with
        | int j =>
          simp only [Op_some]
          cases e2[i]? with
          | none => rfl
          | some o =>
            cases o with
            | none => rfl
            | some d =>
              cases d with
              | lst xs => simp only [OpL]; cases ixN xs.length j <;> rfl
              | _ => rfl
        | _ => rfl
      | _ => rfl
/-- a comprehension's own list stands -/
def gdP (sl : Option Nat) (ds : List D) (e : Env3) : Prop := match sl with
  | none => True
  | some i => e[i]? = some (some (.lst ds))
theorem gdP_none {ds : List D} : gdP none ds e = True := rfl
theorem gdP_some {i : Nat} {ds : List D} : gdP (some i) ds e = (e[i]? = some (some (.lst ds))) := rfl
theorem Ok_gdE {sl : Option Nat} {ds : List D} {r : R D} : Ok (gdE sl ds e r) K X = (gdP sl ds e ∧ Ok r K X) := by
  cases sl with
  | none => simp [gdE, gdP]
  | some i =>
    simp only [gdE, gdP]
    by_cases h : e[i]? = some (some (.lst ds))
    · rw [if_pos h]; simp [h]
    · rw [if_neg h]; simp [h]; exact fun z => z.elim
theorem Ok_Lc {sl : Option Nat} {vs : List Nat} {src : M (List D)} {gf : D → Env3 → Option Env3} {el : M D} : Ok (mLc sl vs src gf t el e) K X = Ok (src e) (fun ds e1 => ds.length ≤ sizeLine ∧ Ok (lcD vs (gdS sl ds gf) t el ds (wipeE vs e1)) (fun ys e2 => e2.length = e1.length ∧ gdP sl ds e2 ∧ K (.lst ys) (restE vs e1 e2)) X) X := by
  unfold mLc
  rw [Ok_bind]; refine Ok_ext fun ds e1 => ?_
  by_cases h : ds.length ≤ sizeLine
  · rw [if_pos h, Ok_bind]
    simp only [h, true_and]
    refine Ok_ext fun ys e2 => ?_
    by_cases h2 : e2.length = e1.length
    · rw [if_pos h2, Ok_gdE]; simp only [h2, true_and]; rfl
    · rw [if_neg h2]; simp only [h2, false_and]; rfl
  · rw [if_neg h]; simp only [h, false_and]; rfl
/-- elements one by one: no exception leaves -/
theorem Ok_nox {α : Type} {r : R α} {K : α → Env3 → Prop} : Ok r.nox K X = Ok r K (fun _ _ => False) := by cases r <;> rfl
theorem Ok_lc_nil {vs : List Nat} {gf : D → Env3 → Option Env3} {el : M D} : Ok (lcD vs gf t el [] e) KL X = KL [] e := rfl
theorem Ok_lc_cons {vs : List Nat} {gf : D → Env3 → Option Env3} {el : M D} {d : D} {ds : List D} : Ok (lcD vs gf t el (d :: ds) e) KL X = Op (gf d (wipeE vs e)) fun e1 => Ok (t e1) (fun b e2 => if b = true then Ok (el e2) (fun y e3 => Ok (lcD vs gf t el ds e3) (fun ys e4 => KL (y :: ys) e4) X) (fun _ _ => False) else Ok (lcD vs gf t el ds e2) KL X) (fun _ _ => False) := by
  show Ok (match gf d (wipeE vs e) with | none => .stk | some e1 => _) KL X = _
  cases gf d (wipeE vs e) with
  | none => rfl
  | some e1 =>
    simp only [Op_some]
    rw [Ok_bind, Ok_nox]; refine Ok_ext fun b e2 => ?_
    cases b with
    | false => rfl
    | true =>
      simp only [if_true]
      rw [Ok_bind, Ok_nox]; refine Ok_ext fun y e3 => ?_
      rw [Ok_bind]; rfl
/-- the calls of a def -/
theorem OkF_denP {n : Nat} {m : M3} {ds : List D} {K : D → Prop} : OkF (denP n m ds) K X = Po (m (env0 n ds)) ⟨fun _ => K .non, fun d _ => K d, fun _ => False, fun _ => False, X⟩ := by
  unfold denP
  cases m (env0 n ds) <;> rfl
theorem OkR_denR {n : Nat} {m : M3} {row ds : List D} {K : D → List D → Prop} : OkR (denR n m row ds) K = Po (m (env0 n (.lst row :: ds))) ⟨fun e => OpL e[0]? fun row' => K .non row', fun d e => OpL e[0]? fun row' => K d row', fun _ => False, fun _ => False, fun _ _ => False⟩ := by
  unfold denR
  cases m (env0 n (.lst row :: ds)) with
  | nx e =>
    show OkR (match e[0]? with | some (some (D.lst row')) => .ok .non row' | _ => .stk) K = OpL e[0]? _
    cases e[0]? with
    | none => rfl
    | some o =>
      cases o with
      | none => rfl
      | some d => cases d <;> rfl
  | rt d e =>
    show OkR (match e[0]? with | some (some (D.lst row')) => .ok d row' | _ => .stk) K = OpL e[0]? _
    cases e[0]? with
    | none => rfl
    | some o =>
      cases o with
      | none => rfl
      | some d => cases d <;> rfl
  | _ => rfl
theorem okF_of {r : FR} {d : D} (h : OkF r (fun x => x = d) (fun _ _ => False)) : r = .ok d := by
  cases r with
  | ok x => exact congrArg FR.ok h
  | exc c fs => exact h.elim
  | stk => exact h.elim
theorem okF_exc {r : FR} {c : Str} {fs : List (Str × D)} (h : OkF r (fun _ => False) (fun x y => x = c ∧ y = fs)) : r = .exc c fs := by
  cases r with
  | ok x => exact h.elim
  | exc x y => obtain ⟨rfl, rfl⟩ := h; rfl
  | stk => exact h.elim
theorem OkF_ok {d : D} {K : D → Prop} : OkF (.ok d) K X = K d := rfl
theorem OkF_exc {c : Str} {fs : List (Str × D)} {K : D → Prop} : OkF (.exc c fs) K X = X c fs := rfl
theorem OkR_ok {d : D} {row : List D} {K : D → List D → Prop} : OkR (.ok d row) K = K d row := rfl
/-- weaker wishes -/
theorem Ok.imp {α : Type} {r : R α} {K K' : α → Env3 → Prop} {X' : KX} (h : Ok r K X) (hk : ∀ a e, K a e → K' a e) (hx : ∀ c fs, X c fs → X' c fs) : Ok r K' X' := by
  cases r with
  | ok a e => exact hk _ _ h
  | exc c fs => exact hx _ _ h
  | stk => exact h
theorem OkF.imp {r : FR} {K K' : D → Prop} {X' : KX} (h : OkF r K X) (hk : ∀ a, K a → K' a) (hx : ∀ c fs, X c fs → X' c fs) : OkF r K' X' := by
  cases r with
  | ok a => exact hk _ h
  | exc c fs => exact hx _ _ h
  | stk => exact h
theorem OkR.imp {r : FRr} {K K' : D → List D → Prop} (h : OkR r K) (hk : ∀ a row, K a row → K' a row) : OkR r K' := by
  cases r with
  | ok a row => exact hk _ _ h
  | stk => exact h
theorem Po.imp {o : O3} {k' : Kt} (h : Po o k) (h1 : ∀ e, k.nx e → k'.nx e) (h2 : ∀ d e, k.rt d e → k'.rt d e) (h3 : ∀ e, k.bk e → k'.bk e) (h4 : ∀ e, k.ct e → k'.ct e) (h5 : ∀ c fs, k.ex c fs → k'.ex c fs) : Po o k' := by
  cases o with
  | nx e => exact h1 _ h
  | rt d e => exact h2 _ _ h
  | bk e => exact h3 _ h
  | ct e => exact h4 _ h
  | exc c fs => exact h5 _ _ h
  | stk => exact h
/-- a loop, by what stands ahead of each turn -/
theorem Po_for_of {gf : D → Env3 → Option Env3} (I : Nat → Env3 → Prop) : ∀ {ds : List D} {e : Env3}, I 0 e → (∀ i d e, ds[i]? = some d → I i e → Op (gf d e) fun e1 => Po (a e1) (k.lp (I (i + 1)) k.nx)) → (∀ e, I ds.length e → k.nx e) → Po (forD gf a ds e) k
  | [], e, h0, _, h2 => h2 e h0
  | d :: ds, e, h0, h1, h2 => by
    have hs := h1 0 d e rfl h0
    cases q : gf d e with
    | none => rw [q] at hs; exact hs.elim
    | some e1 =>
      rw [q] at hs
      simp only [Op_some] at hs
      have e0 : forD gf a (d :: ds) e = (match a e1 with | .nx e2 => forD gf a ds e2 | .ct e2 => forD gf a ds e2 | .bk e2 => .nx e2 | o => o) := by
        show (match gf d e with | none => O3.stk | some e1 => _) = _
        rw [q]
        all_goals (cases h : a e1 <;> simp only [h])
      rw [e0]
      cases q2 : a e1 with
      | nx e2 =>
        rw [q2] at hs
        exact Po_for_of (fun i => I (i + 1)) (ds := ds) hs (fun i d e hd hi => h1 (i + 1) d e hd hi) h2
      | ct e2 =>
        rw [q2] at hs
        exact Po_for_of (fun i => I (i + 1)) (ds := ds) hs (fun i d e hd hi => h1 (i + 1) d e hd hi) h2
      | bk e2 => rw [q2] at hs; exact hs
      | rt d e2 => rw [q2] at hs; exact hs
      | exc c fs => rw [q2] at hs; exact hs
      | stk => rw [q2] at hs; exact hs
/-- a while, by a measure -/
theorem Po_wh_of (I : Nat → Env3 → Prop) : ∀ {n m : Nat} {e : Env3}, m < n → I m e → (∀ m e, I m e → Ok (t e) (fun b e1 => if b = true then Po (a e1) (k.lp (fun e2 => ∃ j, j < m ∧ I j e2) k.nx) else k.nx e1) k.ex) → Po (whD t a n e) k
  | 0, m, e, hm, _, _ => absurd hm (Nat.not_lt_zero _)
  | n + 1, m, e, hm, h0, hs => by
    have h := hs m e h0
    unfold whD
    rw [Po_st]
    refine Ok.imp h (fun b e1 h => ?_) fun _ _ h => h
    cases b with
    | false => exact h
    | true =>
      simp only [if_true] at h ⊢
      cases q : a e1 with
      | nx e2 => rw [q] at h; obtain ⟨j, hj, hi⟩ := h; exact Po_wh_of I (by omega) hi hs
      | ct e2 => rw [q] at h; obtain ⟨j, hj, hi⟩ := h; exact Po_wh_of I (by omega) hi hs
      | bk e2 => rw [q] at h; exact h
      | rt d e2 => rw [q] at h; exact h
      | exc c fs => rw [q] at h; exact h
      | stk => rw [q] at h; exact h
/-- a comprehension, by what stands ahead of each item (how many are taken, what is made) -/
theorem Ok_lc_of {vs : List Nat} {gf : D → Env3 → Option Env3} {el : M D} (I : Nat → List D → Env3 → Prop) : ∀ {KL : List D → Env3 → Prop} {ds : List D} {e : Env3}, I 0 [] e →
    (∀ i d ys e, ds[i]? = some d → I i ys e → Op (gf d (wipeE vs e)) fun e1 => Ok (t e1) (fun b e2 => if b = true then Ok (el e2) (fun y e3 => I (i + 1) (ys ++ [y]) e3) (fun _ _ => False) else I (i + 1) ys e2) (fun _ _ => False)) →
    (∀ ys e, I ds.length ys e → KL ys e) → Ok (lcD vs gf t el ds e) KL X
  | KL, [], e, h0, _, h2 => h2 [] e h0
  | KL, d :: ds, e, h0, h1, h2 => by
    have hs := h1 0 d [] e rfl h0
    rw [Ok_lc_cons]
    cases q : gf d (wipeE vs e) with
    | none => rw [q] at hs; exact hs.elim
    | some e1 =>
      rw [q] at hs
      simp only [Op_some] at hs ⊢
      refine Ok.imp hs (fun b e2 h => ?_) fun _ _ h => h
      cases b with
      | false =>
        simp only [Bool.false_eq_true, if_false] at h ⊢
        exact Ok_lc_of (fun i ys e => I (i + 1) ys e) (ds := ds) h (fun i d ys e hd hi => h1 (i + 1) d ys e hd hi) h2
      | true =>
        simp only [if_true] at h ⊢
        refine Ok.imp h (fun y e3 h => ?_) fun _ _ h => h
        exact Ok_lc_of (fun i ys e => I (i + 1) (y :: ys) e) (KL := fun ys e => KL (y :: ys) e) (ds := ds) h (fun i d ys e hd hi => by
          have := h1 (i + 1) d (y :: ys) e hd hi
          simpa using this) fun ys e hi => h2 (y :: ys) e hi
end
/-- an error's one field -/
def OpX (fs : List (Str × D)) (K : Str → D → Prop) : Prop := match fs with
  | [(f, d)] => K f d
  | _ => False
theorem OpX_one {f : Str} {d : D} {K : Str → D → Prop} : OpX [(f, d)] K = K f d := rfl
def Kt.tr (k : Kt) (X : KX) : Kt := { k with ex := X }
theorem tr_nx {k : Kt} {X : KX} : (k.tr X).nx = k.nx := rfl
theorem tr_rt {k : Kt} {X : KX} : (k.tr X).rt = k.rt := rfl
theorem tr_bk {k : Kt} {X : KX} : (k.tr X).bk = k.bk := rfl
theorem tr_ct {k : Kt} {X : KX} : (k.tr X).ct = k.ct := rfl
theorem tr_ex {k : Kt} {X : KX} : (k.tr X).ex = X := rfl
theorem Po_Try {i j : Nat} {cs ns : List Str} {N : Int} {m : M3} {e : Env3} {k : Kt} : Po (sTry i j cs ns N m e) k = Po (m e) (k.tr fun c fs => OpX fs fun f d => c ∈ cs ∧ f = ("value" : Str) ∧ i < e.length ∧ j < e.length ∧ k.rt (.tup [.int (kix (ns.map fun x => decide (c = x)) N), d]) (List.replicate e.length Option.none)) := by
  unfold sTry
  cases m e with
  | exc c fs =>
    cases fs with
    | nil => rfl
    | cons p r =>
      obtain ⟨f, d⟩ := p
      cases r with
      | nil =>
        show Po (if c ∈ cs ∧ f = ("value" : Str) ∧ i < e.length ∧ j < e.length then _ else _) k = (c ∈ cs ∧ f = ("value" : Str) ∧ i < e.length ∧ j < e.length ∧ _)
        by_cases h : c ∈ cs ∧ f = ("value" : Str) ∧ i < e.length ∧ j < e.length
        · rw [if_pos h]
          obtain ⟨h1, h2, h3, h4⟩ := h
          simp only [h1, h2, h3, h4, true_and]; rfl
        · rw [if_neg h]
          refine propext ⟨fun z => z.elim, fun ⟨h1, h2, h3, h4, _⟩ => h ⟨h1, h2, h3, h4⟩⟩
      | cons _ _ => rfl
  | _ => rfl
end L3

noncomputable section
namespace L3
open PySem PySem.Spec L2
open PyProof.Rows hiding St
/-! # L3O: the walking tactic -/
theorem ite_eq {c : Prop} [Decidable c] {a b : Prop} : (if c then a else b) = ((c → a) ∧ (¬c → b)) := by
  by_cases h : c
  · simp [h]
  · simp [h]
theorem and_ite {c : Prop} [Decidable c] {a : Prop} : (if c then a else False) = (c ∧ a) := by
  by_cases h : c <;> simp [h]
theorem env0_def {n : Nat} {ds : List D} : env0 n ds = ds.map some ++ List.replicate (n - ds.length) none := rfl
theorem rep_zero {a : Option D} : List.replicate 0 a = [] := rfl
theorem rep_succ {a : Option D} {n : Nat} : List.replicate (n + 1) a = a :: List.replicate n a := rfl
theorem dEq_int {i j : Int} : dEq (.int i) (.int j) = some (.bl (decide (i = j))) := rfl
theorem dEq_str {i j : List Nat} : dEq (.str i) (.str j) = some (.bl (decide (i = j))) := rfl
theorem dEq_bl {i j : Bool} : dEq (.bl i) (.bl j) = some (.bl (decide (i = j))) := rfl
theorem dNe_int {i j : Int} : dNe (.int i) (.int j) = some (.bl (!decide (i = j))) := rfl
theorem dNe_str {i j : List Nat} : dNe (.str i) (.str j) = some (.bl (!decide (i = j))) := rfl
theorem dNe_bl {i j : Bool} : dNe (.bl i) (.bl j) = some (.bl (!decide (i = j))) := rfl
theorem dIn_sign {c : Nat} {b : List Nat} : dIn (.str [c]) (.str b) = some (.bl (decide (c ∈ b))) := rfl
theorem dNotIn_sign {c : Nat} {b : List Nat} : dNotIn (.str [c]) (.str b) = some (.bl (!decide (c ∈ b))) := rfl
theorem mulOkI_r {i j : Int} (h1 : -18446744073709551616 < j) (h2 : j < 18446744073709551616) : mulOkI i j = true := by
  unfold mulOkI
  rw [Bool.or_eq_true, Bool.and_eq_true, Bool.and_eq_true, decide_eq_true_eq, decide_eq_true_eq, decide_eq_true_eq, decide_eq_true_eq]
  exact .inr ⟨by omega, by omega⟩
theorem mulOkI_l {i j : Int} (h1 : -18446744073709551616 < i) (h2 : i < 18446744073709551616) : mulOkI i j = true := by
  unfold mulOkI
  rw [Bool.or_eq_true, Bool.and_eq_true, Bool.and_eq_true, decide_eq_true_eq, decide_eq_true_eq, decide_eq_true_eq, decide_eq_true_eq]
  exact .inl ⟨by omega, by omega⟩
theorem dPow_10 {n : Int} (h1 : 0 ≤ n) (h2 : n ≤ 1000000) : dPow (.int 10) (.int n) = some (.int (10 ^ n.toNat)) := by
  simp only [dPow]
  rw [if_pos ⟨h1, h2, by decide⟩]
theorem inR_of {j : Int} (h1 : -4611686018427387904 ≤ j) (h2 : j < 4611686018427387904) : inR j = true := by
  unfold inR
  rw [Bool.and_eq_true, decide_eq_true_eq, decide_eq_true_eq]
  exact ⟨by omega, by omega⟩
theorem dEq_non : dEq .non .non = some (.bl true) := rfl
theorem dEq_nil : dEq (.lst []) (.lst []) = some (.bl true) := rfl
theorem dLen_str {s : List Nat} (h : s.length ≤ sizeLine) : dLen (.str s) = some (.int s.length) := if_pos h
theorem dIx_str {s : List Nat} {i : Int} (h : s.length ≤ sizeLine) : dIx (.str s) (.int i) = (atI s i).map fun c => .str [c] := if_pos h
theorem irange_mem {lo : Int} {n : Nat} {d : D} (h : d ∈ irange lo n) : ∃ i : Nat, i < n ∧ d = .int (lo + i) := by
  obtain ⟨i, hi⟩ := List.mem_iff_getElem?.mp h
  obtain ⟨h1, h2⟩ := irange_get hi
  exact ⟨i, h1, h2⟩
theorem irange_length {lo : Int} {n : Nat} : (irange lo n).length = n := irange_len
theorem cutD_to {α : Type} (xs : List α) (m : Nat) : cutD xs none (some (m : Int)) = xs.take m := by
  unfold cutD
  rw [show HT.sIx xs.length xs.length (some (m : Int)) = min m xs.length from HT.sIx_nat _ _ m, HT.sIx_none]
  rw [List.drop_zero, Nat.sub_zero]
  by_cases h : m ≤ xs.length
  · rw [Nat.min_eq_left h]
  · rw [Nat.min_eq_right (by omega), List.take_of_length_le (Nat.le_refl _), List.take_of_length_le (by omega)]
theorem cutD_from {α : Type} (xs : List α) (m : Nat) : cutD xs (some (m : Int)) none = xs.drop m := by
  unfold cutD
  rw [show HT.sIx xs.length 0 (some (m : Int)) = min m xs.length from HT.sIx_nat _ _ m, HT.sIx_none]
  by_cases h : m ≤ xs.length
  · rw [Nat.min_eq_left h, List.take_of_length_le (by rw [List.length_drop]; omega)]
  · rw [Nat.min_eq_right (by omega), List.drop_eq_nil_of_le (Nat.le_refl _), List.drop_eq_nil_of_le (by omega), List.take_nil]
theorem okF_ex {r : FR} {K : D → Prop} (h : OkF r K (fun _ _ => False)) : ∃ d, r = .ok d ∧ K d := by
  cases r with
  | ok d => rw [OkF_ok] at h; exact ⟨d, rfl, h⟩
  | exc c fs => rw [OkF_exc] at h; exact h.elim
  | stk => exact absurd h (by unfold OkF; exact id)
theorem mulOkS_of {l : Nat} {n : Int} (h1 : l ≤ 16) (h2 : -9223372036854775808 ≤ n) (h3 : n ≤ 1048576) : mulOkS l n = true := by
  unfold mulOkS
  simp only [Bool.or_eq_true, Bool.and_eq_true, decide_eq_true_eq]
  exact .inl ⟨⟨h1, by omega⟩, h3⟩
theorem mulOkS_of2 {l : Nat} {n : Int} (h1 : l ≤ 1048576) (h2 : -9223372036854775808 ≤ n) (h3 : n ≤ 16) : mulOkS l n = true := by
  unfold mulOkS
  simp only [Bool.or_eq_true, Bool.and_eq_true, decide_eq_true_eq]
  exact .inr ⟨⟨h1, by omega⟩, h3⟩
theorem ixN_40 : ixN 4 0 = some 0 := rfl
theorem ixN_41 : ixN 4 1 = some 1 := rfl
theorem ixN_42 : ixN 4 2 = some 2 := rfl
theorem ixN_43 : ixN 4 3 = some 3 := rfl
theorem atI_0 {α : Type} {a : α} {r : List α} : atI (a :: r) 0 = some a := atI_nat (j := 0) rfl
theorem atI_1 {α : Type} {a b : α} {r : List α} : atI (a :: b :: r) 1 = some b := atI_nat (j := 1) rfl
theorem atI_2 {α : Type} {a b c : α} {r : List α} : atI (a :: b :: c :: r) 2 = some c := atI_nat (j := 2) rfl
theorem atI_3 {α : Type} {a b c d : α} {r : List α} : atI (a :: b :: c :: d :: r) 3 = some d := atI_nat (j := 3) rfl
theorem atI_4 {α : Type} {a b c d e : α} {r : List α} : atI (a :: b :: c :: d :: e :: r) 4 = some e := atI_nat (j := 4) rfl
/-! ### comprehensions that change nothing -/
theorem wipeE_length' (vs : List Nat) (e : Env3) : (wipeE vs e).length = e.length := by
  induction vs with
  | nil => rfl
  | cons v vs ih => simp only [wipeE, List.foldr_cons, List.length_set] at ih ⊢; exact ih
theorem restE_wipe {vs : List Nat} {e1 e2 : Env3} (h : wipeE vs e2 = wipeE vs e1) : restE vs e1 e2 = e1 := by
  have hl : e2.length = e1.length := by rw [← wipeE_length' vs e2, h, wipeE_length']
  refine List.ext_getElem? fun j => ?_
  rw [restE_get]
  by_cases hj : j ∈ vs
  · rw [if_pos hj]
    by_cases hlt : j < e1.length
    · rw [if_pos (by omega)]
      rw [List.getElem?_eq_getElem hlt]
      cases e1[j] <;> rfl
    · rw [if_neg (by omega), List.getElem?_eq_none (by omega)]
  · rw [if_neg hj]
    have := congrArg (fun z => z[j]?) h
    simp only [wipeE_get] at this
    rw [if_neg hj, if_neg hj] at this
    exact this
theorem Ok_lc_pure {vs : List Nat} {gf : D → Env3 → Option Env3} {t : M Bool} {el : M D} {K : D → Env3 → Prop} {X : KX} (p : D → Bool) (f : D → D) {ds : List D} {e1 : Env3}
    (he : ∀ d ∈ ds, Op (gf d (wipeE vs e1)) fun e2 => Ok (t e2) (fun b e3 => b = p d ∧ if b = true then Ok (el e3) (fun y e4 => y = f d ∧ wipeE vs e4 = wipeE vs e1) (fun _ _ => False) else wipeE vs e3 = wipeE vs e1) (fun _ _ => False))
    (h : K (.lst ((ds.filter p).map f)) e1) : Ok (lcD vs (gdS none ds gf) t el ds (wipeE vs e1)) (fun ys e2 => e2.length = e1.length ∧ K (.lst ys) (restE vs e1 e2)) X := by
  have main : ∀ (l : List D) (e : Env3) (KL : List D → Env3 → Prop), (∀ d ∈ l, d ∈ ds) → wipeE vs e = wipeE vs e1 → (∀ e2, wipeE vs e2 = wipeE vs e1 → KL ((l.filter p).map f) e2) → Ok (lcD vs gf t el l e) KL X := by
    intro l
    induction l with
    | nil => intro e KL _ hw hk; rw [Ok_lc_nil]; exact hk e hw
    | cons d r ih =>
      intro e KL hm hw hk
      rw [Ok_lc_cons, hw]
      have hd := he d (hm d (.head _))
      cases q : gf d (wipeE vs e1) with
      | none => rw [q, Op_none] at hd; exact hd.elim
      | some e2 =>
        rw [q] at hd
        simp only [Op_some] at hd ⊢
        refine Ok.imp hd (fun b e3 hb => ?_) fun _ _ z => z
        obtain ⟨hp, hb⟩ := hb
        cases b with
        | false =>
          simp only [Bool.false_eq_true, if_false] at hb ⊢
          refine ih e3 KL (fun x hx => hm x (.tail _ hx)) hb fun e4 h4 => ?_
          have := hk e4 h4
          rwa [List.filter_cons_of_neg (by rw [← hp]; simp)] at this
        | true =>
          simp only [if_true] at hb ⊢
          refine Ok.imp hb (fun y e4 hy => ?_) fun _ _ z => z
          obtain ⟨rfl, hy⟩ := hy
          refine ih e4 _ (fun x hx => hm x (.tail _ hx)) hy fun e5 h5 => ?_
          have := hk e5 h5
          rwa [List.filter_cons_of_pos (by rw [← hp]), List.map_cons] at this
  refine main ds _ _ (fun _ h => h) ?_ fun e2 h2 => ?_
  · refine List.ext_getElem? fun j => ?_
    rw [wipeE_get, wipeE_length', wipeE_get]
    by_cases hj : j ∈ vs
    · rw [if_pos hj, if_pos hj]
    · rw [if_neg hj, if_neg hj]
  · refine ⟨by rw [← wipeE_length' vs e2, h2, wipeE_length'], ?_⟩
    rw [restE_wipe h2]
    exact h
theorem Ok_Lc_pure {vs : List Nat} {src : M (List D)} {gf : D → Env3 → Option Env3} {t : M Bool} {el : M D} {K : D → Env3 → Prop} {X : KX} {e : Env3} (p : D → Bool) (f : D → D)
    (h : Ok (src e) (fun ds e1 => ds.length ≤ sizeLine ∧ (∀ d ∈ ds, Op (gf d (wipeE vs e1)) fun e2 => Ok (t e2) (fun b e3 => b = p d ∧ if b = true then Ok (el e3) (fun y e4 => y = f d ∧ wipeE vs e4 = wipeE vs e1) (fun _ _ => False) else wipeE vs e3 = wipeE vs e1) (fun _ _ => False)) ∧
      K (.lst ((ds.filter p).map f)) e1) X) : Ok (mLc none vs src gf t el e) K X := by
  rw [Ok_Lc]
  refine Ok.imp h (fun ds e1 ⟨h1, h2, h3⟩ => ⟨h1, ?_⟩) fun _ _ z => z
  exact (Ok_lc_pure p f h2 h3).imp (fun ys e2 ⟨a, b⟩ => ⟨a, trivial, b⟩) fun _ _ z => z
theorem Ok_Lc_inv {vs : List Nat} {src : M (List D)} {gf : D → Env3 → Option Env3} {t : M Bool} {el : M D} {K : D → Env3 → Prop} {X : KX} {e : Env3} (I : Nat → List D → Env3 → Prop)
    (h : Ok (src e) (fun ds e1 => ds.length ≤ sizeLine ∧ I 0 [] (wipeE vs e1) ∧ (∀ i d ys e, ds[i]? = some d → I i ys e → Op (gf d (wipeE vs e)) fun e1 => Ok (t e1) (fun b e2 => if b = true then Ok (el e2) (fun y e3 => I (i + 1) (ys ++ [y]) e3) (fun _ _ => False) else I (i + 1) ys e2) (fun _ _ => False)) ∧
      ∀ ys e2, I ds.length ys e2 → e2.length = e1.length ∧ K (.lst ys) (restE vs e1 e2)) X) : Ok (mLc none vs src gf t el e) K X := by
  rw [Ok_Lc]
  refine Ok.imp h (fun ds e1 ⟨h1, h2, h3, h4⟩ => ⟨h1, ?_⟩) fun _ _ z => z
  exact Ok_lc_of I h2 h3 fun ys e2 hi => ⟨(h4 ys e2 hi).1, trivial, (h4 ys e2 hi).2⟩
theorem blsOf_map {α : Type} (l : List α) (g : α → Bool) : blsOf (l.map fun x => .bl (g x)) = some (l.map g) := by
  induction l with
  | nil => rfl
  | cons x r ih => simp only [List.map_cons, blsOf, ih, Option.map_some]
theorem intsOf_map {α : Type} (l : List α) (g : α → Int) : intsOf (l.map fun x => .int (g x)) = some (l.map g) := by
  induction l with
  | nil => rfl
  | cons x r ih => simp only [List.map_cons, intsOf, ih, Option.map_some]
theorem strsOf_map {α : Type} (l : List α) (g : α → List Nat) : strsOf (l.map fun x => .str (g x)) = some (l.map g) := by
  induction l with
  | nil => rfl
  | cons x r ih => simp only [List.map_cons, strsOf, ih, Option.map_some]
end L3

/-! # L3P: enumerate over anything, zip, range with a step -/
namespace L3
open PySem PySem.Spec L2
open PyProof.Rows hiding St
/-! ### range with a step -/
section
variable {X : Cx} {io : List Nat} {E : WX} {mk : List Kd} {kr : Kd} {W : Kx} {g : Gh} {F F' H H' : Hp} {rt : Nat → List Addr} {σ : L2.St} {pos p : Pos}
def rgD (i j c : Int) : Option Nat := if c = -1 ∧ inR i = true ∧ inR j = true then some (i - j).toNat else if 0 < c ∧ c < 1073741824 ∧ inR i = true ∧ inR j = true ∧ Builtin.Range.small i j c = true ∧ 0 ≤ Builtin.Range.rangeSize i j c then some (Builtin.Range.rangeSize i j c).toNat else none
def irangeC (lo c : Int) (n : Nat) : List D := (List.range n).map fun i : Nat => .int (lo + (i : Int) * c)
def mRng3 (ms : M (List D)) : M (List D) := fun e => (ms e).bind fun ds e1 => match int3 ds with
  | some (i, j, c) => (match rgD i j c with
    | some n => .ok (irangeC i c n) e1
    | none => .stk)
  | none => .stk
theorem rgD_h {i j c : Int} {n : Nat} (h : rgD i j c = some n) : RgC i j c n := by
  unfold rgD at h
  split at h
  · rename_i hc
    obtain ⟨rfl, h1, h2⟩ := hc
    cases h
    exact RgC.neg (inR.h h1).1 (inR.h h1).2 (inR.h h2).1 (inR.h h2).2
  · split at h
    · rename_i hc
      obtain ⟨h0, h1, h2, h3, h4, h5⟩ := hc
      cases h
      exact ⟨by omega, by omega, h4, (Int.toNat_of_nonneg h5).symm⟩
    · cases h
theorem irangeC_get {lo c : Int} {n i : Nat} {d : D} (h : (irangeC lo c n)[i]? = some d) : i < n ∧ d = .int (lo + (i : Int) * c) := by
  unfold irangeC at h
  rw [List.getElem?_map] at h
  by_cases hi : i < n
  · rw [List.getElem?_range hi] at h
    exact ⟨hi, (Option.some.inj h).symm⟩
  · rw [List.getElem?_eq_none (by simpa using hi)] at h; cases h
theorem itc_ok {lo c : Int} {k : Nat} {F1 : Hp} : ItOk W io g mk F1 σ none (Itc lo c k) (irangeC lo c k) :=
  ⟨fun n d F e rt σ H hd hs l _ => by
    obtain ⟨hn, rfl⟩ := irangeC_get hd
    exact ⟨hn, fun x H' y => .inl ⟨y.1, by rw [y.2]; exact Rep.int⟩⟩, fun F e rt σ H hs l _ => by
    show k ≤ (irangeC lo c k).length
    simp [irangeC]⟩
theorem iv_rng3 {tg a b c : Expr} {ms : M (List D)} {os : List Op3} (hg : Gl X "range") (hm : X.mg "range" = none) (ha : AV X io E mk [a, b, c] ms os) (ho : allEx os = true := by rfl)
    (hs : starEach [a, b, c] X.env = (false, eval a X.env) :: starEach [b, c] X.env := by rfl) (hpl : (backTo pos (starEach [b, c] X.env)).any (·.1) = false := by rfl) :
    IV X io E mk tg (.Call (.Name "range" p) [a, b, c] [] pos) (mRng3 ms) none := (pi_range3 hg hm ha hs hpl).imp fun σ H R h => by
  obtain ⟨g, F, e, rt, l, h⟩ := h
  refine ⟨g, F, e, rt, l, ?_⟩
  unfold mRng3 at h
  cases q : ms e with
  | exc c fs => rw [q] at h; exact h
  | stk => rw [q] at h; exact h
  | ok ds e1 =>
    rw [q] at h
    intro vs F1 rt1 H1 s1 l1 a1
    have r := atOs_ex a1 ho
    simp only [L3.R.bind_ok] at h
    cases q2 : int3 ds with
    | none => rw [q2] at h; exact h.elim
    | some ijk =>
      obtain ⟨i, j, k⟩ := ijk
      rw [q2] at h
      dsimp only at h
      have := int3.h q2
      subst this
      simp only [RepL] at r
      obtain ⟨v, w, ev, r1, v2, w2, ev2, r2, v3, w3, ev3, r3, r4⟩ := r
      subst r4 ev3 ev2 ev
      cases q3 : rgD i j k with
      | none => rw [q3] at h; exact h.elim
      | some n =>
        rw [q3] at h
        exact ⟨i, j, k, n, by rw [Rep.of_int r1, Rep.of_int r2, Rep.of_int r3], rgD_h q3, h _ F1 rt1 H1 s1 l1 itc_ok⟩
/-! ### enumerate(x): a list, a tuple, a text -/
section
variable {prog : Program} {w : World} {A : Around} {E : Value → Shared → Prop} {s : Shared}
set_option maxHeartbeats 1000001 in
theorem meets_enum1 {v : Value} {ob : Obj} {HB : Heap → Prop} (B : Begins v ob HB) :
    Meets (Builtin.«enumerate.__new__» ⟨[.type "enumerate", v], []⟩) (fun _ R s => HB s.heap ∧
      R (.ok (.ret (.ref (s.heap.push ob).objs.size))) { s with heap := (s.heap.push ob).push { cls := .type "enumerate", data := .fields #[.none, .bool false, .ref s.heap.objs.size, rawInt 0, .none, .none] } }) :=
  .of_wp fun prog w A R s h => by
    obtain ⟨hp, gs, dd, tk, os⟩ := s; obtain ⟨h1, h⟩ := h
    have hsub := sub_enumerate
    have q1 : ∀ {A' : Around} {E : Value → Shared → Prop} {Q : Value → Shared → Prop}, Q (.ref hp.objs.size) ⟨hp.push ob, gs, dd, tk, os⟩ → wpAny (model prog w) A' (pyIter v) Q E ⟨hp, gs, dd, tk, os⟩ :=
      fun q => B.iter prog w _ _ ⟨hp, gs, dd, tk, os⟩ _ h1 q
    wp_walk using q1
    refine wpAny_stack_any (fun sk => wpAny_pure ?_)
    split
    · rename_i c _ _ _ _ _
      cases ((c == Value.type "enumerate"))
      · wp_walk using q1
        exact ⟨_, rfl, h⟩
      · wp_walk using q1
        exact ⟨_, rfl, h⟩
    · wp_walk using q1
      exact ⟨_, rfl, h⟩
theorem enum_begins1 {v : Value} {ob : Obj} {HB : Heap → Prop} {Q : Value → Shared → Prop} (B : Begins v ob HB) (h1 : HB s.heap)
    (h : ∀ h', IsEnum h' (s.heap.objs.size + 1) s.heap.objs.size 0 .none → h'.get? s.heap.objs.size = some ob → (∀ b o, s.heap.get? b = some o → h'.get? b = some o) → Q (.ref (s.heap.objs.size + 1)) { s with heap := h' }) :
    wpAny (model prog w) A (call (.type "enumerate") [v]) Q E s := by
  refine callType_new F.called_enumerate (by decide) (F.typeCall_enumerate_1 _) (F.newCall_enumerate_1 _) (fun z => F.args_object_init_2 z _) F.entry_enumerate_new (meets_enum1 B) ⟨h1, ?_⟩
  have hz : (s.heap.push ob).objs.size = s.heap.objs.size + 1 := Heap.size_push ..
  show _ ∧ _
  rw [hz]
  have he : IsEnum ((s.heap.push ob).push { cls := .type "enumerate", data := .fields #[.none, .bool false, .ref s.heap.objs.size, rawInt 0, .none, .none] }) (s.heap.objs.size + 1) s.heap.objs.size 0 .none := by
    have z := Heap.get?_push_size (s.heap.push ob) (o := { cls := .type "enumerate", data := .fields #[.none, .bool false, .ref s.heap.objs.size, rawInt 0, .none, .none] }) rfl
    rw [hz] at z; exact z
  exact ⟨⟨_, he, rfl⟩, h _ he (Heap.get?_push_of_some _ (Heap.get?_push_size _ B.free)) fun b o x => Heap.get?_push_of_some _ (Heap.get?_push_of_some _ x)⟩
end
end
/-- what enumerate hands out: the place and the thing, in a new pair -/
def ItE (gx gy : Nat → Hp → V → Prop) (fin : Nat → Hp → Prop) : It := ⟨fun i H => ∃ x, gx i H x, fun i H v H' => ∃ T x, v = .ref T ∧ H T = none ∧ H' = upd H T (.tup [.int (i : Nat), x]) ∧ gy i H x, fin⟩
/-- how a source's iterator at it draws (s0: its state, of its own cell alone) -/
structure EnSrc (P : Program) (w : World) (K : PySem.W.Frag) (gx gy : Nat → Hp → V → Prop) (fin : Nat → Hp → Prop) (it : Addr) (fp : List Addr) (s0 : Nat → Heap → Prop) : Prop where
  mem : it ∈ fp
  obj : ∀ i h, s0 i h → ∃ o, h.get? it = some o ∧ ∀ v, o.data ≠ .cell v
  keep : ∀ i h h', s0 i h → (∀ o, h.get? it = some o → h'.get? it = some o) → s0 i h'
  item : ∀ (X : Cx), X.prog = P → X.w = w → X.K = K → X.A.handled = none → ∀ (i : Nat) (pins : List (Addr × Obj)) (s : Shared) (σ : L2.St) (H : Hp), Inv X pins σ H s → s0 i s.heap → (∃ x, gx i H x) →
    ∃ (n : Nat) (Pv : Nat → Value → Prop) (St : Nat → Heap → Prop), Draws P w X.A.in1 it fp n Pv St ∧ St i s.heap ∧ i < n ∧ (∀ u, Pv i u → ∃ x, RelV x u ∧ gy i H x) ∧ ∀ j h', St j h' → s0 j h'
  done : ∀ (X : Cx), X.prog = P → X.w = w → X.K = K → X.A.handled = none → ∀ (i : Nat) (pins : List (Addr × Obj)) (s : Shared) (σ : L2.St) (H : Hp), Inv X pins σ H s → s0 i s.heap → fin i H →
    ∃ (Pv : Nat → Value → Prop) (St : Nat → Heap → Prop), Draws P w X.A.in1 it fp i Pv St ∧ St i s.heap
theorem turn_enumG {P : Program} {w : World} {K : PySem.W.Frag} {elts : List Expr} {kk : Nat} {tpos : Pos} {gx gy : Nat → Hp → V → Prop} {fin : Nat → Hp → Prop} {it : Addr} {fp : List Addr} {s0 : Nat → Heap → Prop} (S : EnSrc P w K gx gy fin it fp s0) (e : Addr) (hef : e ∉ fp) :
    Turn P w K (.Tuple elts kk tpos) (ItE gx gy fin) [e, it] e (fun i h => (∃ old, IsEnum h e it ((i : Nat) : Int) old) ∧ s0 i h) where
  mem := by simp
  obj := fun i h sd b hb => by
    obtain ⟨⟨old, he⟩, h0⟩ := sd
    have z : b = e ∨ b = it := by simpa using hb
    rcases z with rfl | rfl
    · exact ⟨_, he, fun v q => nomatch q⟩
    · exact S.obj i h h0
  keep := fun i h h' st k => ⟨st.1.imp fun old he => k e (by simp) _ he, S.keep i h h' st.2 fun o q => k it (by simp) o q⟩
  item := by
    intro Y hP hw hK hc i pins s σ H E J hf sd hg
    obtain ⟨⟨old, he⟩, h0⟩ := sd
    have hne : e ≠ it := fun z => hef (by rw [z]; exact S.mem)
    obtain ⟨n, Pv, St, Dr, hst, hlt, hPv, back⟩ := S.item Y hP hw hK (J.ok.hd hc) i pins s σ H J h0 hg
    subst hP hw hK
    have elt : e < s.heap.objs.size := Heap.lt_size he
    have ilt : it < s.heap.objs.size := by obtain ⟨o, q, _⟩ := S.obj i _ h0; exact Heap.lt_size q
    refine wpAny_pyNext_enum_itemD Dr he hst hlt hne hef fun u h1 tk hu ho hst1 hT hsz hk => ?_
    obtain ⟨x, ru, gxx⟩ := hPv u hu
    refine ⟨_, rfl, wpAny_letOwnedTupleGo_enum (s := { s with heap := h1, toks := tk + 1 }) ho fun h2 he2 sb => ?_⟩
    have hT2 : h2.get? s.heap.objs.size = some { cls := .type "tuple", data := .seq #[.int i tk, u] } := (sb.2 _ (Nat.ne_of_gt elt)).trans hT
    have new : ObjOk Y.prog Y.w (upd H s.heap.objs.size (.tup [.int (i : Nat), x])) h2 s.heap.objs.size (.tup [.int (i : Nat), x]) :=
      ⟨by show 2 ≤ sizeLine; decide, [.int i tk, u], .cons ⟨_, rfl⟩ (.cons ru .nil), ⟨_, hT2, rfl, _, rfl⟩⟩
    have J1 : Inv Y pins σ (upd H s.heap.objs.size (.tup [.int (i : Nat), x])) { s with heap := h2, toks := tk + 1 } :=
      J.turnedNew (ch := [e, it]) (fun b ob hb q => (sb.2 b (fun z => hb (by simp [z]))).trans (hk b ob (fun z => hb (by simp [z])) (fun z => hb (by simp [z])) q)) hf (Nat.le_refl _) new
    refine ⟨.ref s.heap.objs.size, _, J1, rfl, ⟨_, x, rfl, J.hok.fresh (Nat.le_refl _), rfl, gxx⟩, ⟨⟨u, ?_⟩, S.keep _ _ _ (back _ _ hst1) fun o q => (sb.2 it (Ne.symm hne)).trans q⟩, fun b hb => ?_⟩
    · have ei : ((i + 1 : Nat) : Int) = (i : Int) + 1 := by omega
      rw [ei]; exact he2
    · have hbl : b < s.heap.objs.size := by
        have z : b = e ∨ b = it := by simpa using hb
        rcases z with rfl | rfl
        · exact elt
        · exact ilt
      rw [upd_ne (Nat.ne_of_lt hbl)]
      exact (hf b hb).1
  done := by
    intro Y hP hw hK hc i pins s σ H E J hf sd hg
    obtain ⟨⟨old, he⟩, h0⟩ := sd
    obtain ⟨Pv, St, Dr, hst⟩ := S.done Y hP hw hK (J.ok.hd hc) i pins s σ H J h0 hg
    subst hP hw hK
    obtain ⟨g0, g1, g2, g3, g4, g5⟩ := hf it (by simp)
    exact wpAny_pyNext_enum_endD Dr he hst fun h' eb => ⟨rfl, J.turned (t' := s.toks) (fun b o hb q => eb b o hb q) g0 g1 g3 g4 g5⟩
  self := fun A i s Q E st h => let ⟨⟨_, he⟩, _⟩ := st; wpAny_pyIter_enum he h
theorem en_list {P : Program} {w : World} {K : PySem.W.Frag} (a it : Addr) (ha : a ≠ it) : EnSrc P w K (fun i H x => ∃ xs : List V, SqL K H a xs ∧ xs[i]? = some x) (fun i H x => ∀ xs : List V, SqL K H a xs → xs[i]? = some x) (fun i H => ∃ xs : List V, SqL K H a xs ∧ xs.length = i) it [it, a] (fun i h => h.IsListIter it a i) where
  mem := by simp
  obj := fun i h ⟨o, ho, hc, hd⟩ => ⟨o, ho, fun v q => by rw [hd] at q; cases q⟩
  keep := fun i h h' st k => st.at fun o q => k o q
  item := fun X hP hw hK hh i pins s σ H I st ⟨x, xs, hq, hx⟩ => by
    subst hP hw hK
    obtain ⟨its, rv, p, hz⟩ := I.list hq
    obtain ⟨u, hu, ru⟩ := rv.get hx
    have hlt : i < its.toArray.size := by rw [List.size_toArray]; exact (List.getElem?_eq_some_iff.mp hu).1
    refine ⟨its.toArray.size, _, _, Draws.list (A := X.A.in1) hh it a ha its.toArray, ⟨st, p.isList⟩, hlt, fun y hy => ?_, fun j h' q => q.1⟩
    · have hy2 : its[i]? = some y := by simpa using hy
      rw [hu] at hy2; cases hy2
      exact ⟨x, ru, fun ys hy => by rw [I.list_inj hy hq]; exact hx⟩
  done := fun X hP hw hK hh i pins s σ H I st ⟨xs, hq, hl⟩ => by
    subst hP hw hK
    obtain ⟨its, rv, p, hz⟩ := I.list hq
    have hn : its.toArray.size = i := by rw [List.size_toArray, ← rv.length, hl]
    subst hn
    exact ⟨_, _, Draws.list (A := X.A.in1) hh it a ha its.toArray, st, p.isList⟩
theorem en_tup {P : Program} {w : World} {K : PySem.W.Frag} (a it : Addr) (ha : a ≠ it) : EnSrc P w K (fun i H x => ∃ xs : List V, SqT K H a xs ∧ xs[i]? = some x) (fun i H x => ∀ xs : List V, SqT K H a xs → xs[i]? = some x) (fun i H => ∃ xs : List V, SqT K H a xs ∧ xs.length = i) it [it, a] (fun i h => h.IsTupleIter it a i) where
  mem := by simp
  obj := fun i h ⟨o, ho, hc, hd⟩ => ⟨o, ho, fun v q => by rw [hd] at q; cases q⟩
  keep := fun i h h' st k => st.at fun o q => k o q
  item := fun X hP hw hK hh i pins s σ H I st ⟨x, xs, hq, hx⟩ => by
    subst hP hw hK
    obtain ⟨its, rv, p, hz⟩ := I.tuple hq
    have pt : s.heap.IsTuple a its.toArray := p
    obtain ⟨u, hu, ru⟩ := rv.get hx
    have hlt : i < its.toArray.size := by rw [List.size_toArray]; exact (List.getElem?_eq_some_iff.mp hu).1
    refine ⟨its.toArray.size, _, _, Draws.tuple (A := X.A.in1) hh it a ha its.toArray, ⟨st, pt⟩, hlt, fun y hy => ?_, fun j h' q => q.1⟩
    · have hy2 : its[i]? = some y := by simpa using hy
      rw [hu] at hy2; cases hy2
      exact ⟨x, ru, fun ys hy => by rw [I.tuple_inj hy hq]; exact hx⟩
  done := fun X hP hw hK hh i pins s σ H I st ⟨xs, hq, hl⟩ => by
    subst hP hw hK
    obtain ⟨its, rv, p, hz⟩ := I.tuple hq
    have pt : s.heap.IsTuple a its.toArray := p
    have hn : its.toArray.size = i := by rw [List.size_toArray, ← rv.length, hl]
    subst hn
    exact ⟨_, _, Draws.tuple (A := X.A.in1) hh it a ha its.toArray, st, pt⟩
theorem en_str {P : Program} {w : World} {K : PySem.W.Frag} (z : Str) (t : Tok) (it : Addr) : EnSrc P w K (fun i _ x => ∃ c, z.cps[i]? = some c ∧ x = .str ⟨#[c]⟩) (fun i _ x => ∃ c, z.cps[i]? = some c ∧ x = .str ⟨#[c]⟩) (fun i _ => z.cps.size = i) it [it] (fun i h => h.IsStrIter it (strIterType z) z t i) where
  mem := by simp
  obj := fun i h ⟨o, ho, hc, hd⟩ => ⟨o, ho, fun v q => by rw [hd] at q; cases q⟩
  keep := fun i h h' ⟨o, ho, r⟩ k => ⟨o, k o ho, r⟩
  item := fun X hP hw hK hh i pins s σ H I st ⟨x, c, hc, hx⟩ => by
    subst hP hw hK
    have hlt : i < z.cps.size := (Array.getElem?_eq_some_iff.mp hc).1
    refine ⟨z.cps.size, _, _, Draws.text (A := X.A.in1) hh it z t, st, hlt, fun y hy => ?_, fun j h' q => q⟩
    obtain ⟨c', u, h1, h2⟩ := hy
    exact ⟨.str ⟨#[c']⟩, ⟨u, h2⟩, c', h1, rfl⟩
  done := fun X hP hw hK hh i pins s σ H I st hl => by
    subst hP hw hK hl
    exact ⟨_, _, Draws.text (A := X.A.in1) hh it z t, st⟩
theorem nin2 {n a : Nat} (h : a < n) : n + 1 ∉ [n, a] := by
  simp only [List.mem_cons, List.not_mem_nil, or_false, not_or]
  exact ⟨Nat.succ_ne_self _, by omega⟩
/-! ### the rule -/
section
variable {X : Cx} {io : List Nat} {E : WX} {mk : List Kd} {kr : Kd} {W : Kx} {g : Gh} {F F' H H' : Hp} {rt : Nat → List Addr} {σ : L2.St} {pos p : Pos}
theorem pi_enumA {x : Expr} {ta : TA} {tpos : Pos} {elts : List Expr} {kk : Nat} (hg : Gl X "enumerate") (hm : X.mg "enumerate" = none) (ha : PA X [x] ta) (hs : starEach [x] X.env = [(false, eval x X.env)] := by rfl) :
    PI X (.Tuple elts kk tpos) (.Call (.Name "enumerate" p) [x] [] pos) (fun σ H R => ta σ H fun vs H1 => (∃ a, vs = [.ref a] ∧ (∃ xs, SqL X.K H1 a xs) ∧ R (ItE (fun i H x => ∃ xs : List V, SqL X.K H a xs ∧ xs[i]? = some x) (fun i H x => ∀ xs : List V, SqL X.K H a xs → xs[i]? = some x) (fun i H => ∃ xs : List V, SqL X.K H a xs ∧ xs.length = i)) H1) ∨
      (∃ a, vs = [.ref a] ∧ (∃ xs, SqT X.K H1 a xs) ∧ R (ItE (fun i H x => ∃ xs : List V, SqT X.K H a xs ∧ xs[i]? = some x) (fun i H x => ∀ xs : List V, SqT X.K H a xs → xs[i]? = some x) (fun i H => ∃ xs : List V, SqT X.K H a xs ∧ xs.length = i)) H1) ∨
      ∃ z, vs = [.str z] ∧ R (ItE (fun i _ x => ∃ c, z.cps[i]? = some c ∧ x = .str ⟨#[c]⟩) (fun i _ x => ∃ c, z.cps[i]? = some c ∧ x = .str ⟨#[c]⟩) (fun i _ => z.cps.size = i)) H1) := by
  refine ⟨fun pins s σ H R I h => ?_⟩
  refine Call_ (ld_blt I hg hm boot_enumerate (PyProof.Rows.callWith_type1 (thn (ha.run pos pins s σ H _ I h) fun us s1 ⟨vs, H1, J, r1, q1⟩ => ?_) hs rfl))
  have fin : ∀ (h' : Heap) (gx gy : Nat → Hp → V → Prop) (fi : Nat → Hp → Prop) (fp : List Addr) (s0 : Nat → Heap → Prop), EnSrc X.prog X.w X.K gx gy fi s1.heap.objs.size fp s0 → s1.heap.objs.size + 1 ∉ fp → IsEnum h' (s1.heap.objs.size + 1) s1.heap.objs.size 0 .none → s0 0 h' → (∀ b o, s1.heap.get? b = some o → h'.get? b = some o) →
      R (ItE gx gy fi) H1 → wpAny (model X.prog X.w) X.A (pyIter (.ref (s1.heap.objs.size + 1))) (PIE X pins σ (.Tuple elts kk tpos) R) X.xe { s1 with heap := h' } := fun h' gx gy fi fp s0 S hef he h0 hk q => by
    refine wpAny_pyIter_enum he ?_
    have J2 : Inv X pins σ H1 { s1 with heap := h' } := J.kept (t' := s1.toks) hk
    refine ⟨s1.heap.objs.size + 1, [s1.heap.objs.size + 1, s1.heap.objs.size], _, _, H1, rfl, J2, turn_enumG S _ hef, ⟨⟨.none, he⟩, h0⟩, fun b hb => ?_, q⟩
    have hle : s1.heap.objs.size ≤ b := by
      have z : b = s1.heap.objs.size + 1 ∨ b = s1.heap.objs.size := by simpa using hb
      rcases z with z | z <;> rw [z]
      · exact Nat.le_succ _
      · exact Nat.le_refl _
    exact J.fpOk hle (J.hok.fresh hle)
  rcases q1 with ⟨a, ex, ⟨xs, hq⟩, q⟩ | ⟨a, ex, ⟨xs, hq⟩, q⟩ | ⟨z, ex, q⟩
  · subst ex
    cases r1 with
    | cons r rr =>
      cases rr
      cases r
      obtain ⟨its, rv, pl, hz⟩ := J.list hq
      exact enum_begins1 (begins_list a its.toArray) pl.isList fun h' he ho hk => fin h' _ _ _ _ _ (en_list a _ (Nat.ne_of_lt pl.lt)) (nin2 pl.lt) he ⟨_, ho, rfl, rfl⟩ hk q
  · subst ex
    cases r1 with
    | cons r rr =>
      cases rr
      cases r
      obtain ⟨its, rv, pl, hz⟩ := J.tuple hq
      have pt : s1.heap.IsTuple a its.toArray := pl
      have hlt : a < s1.heap.objs.size := by obtain ⟨o, ho, _⟩ := pt; exact Heap.lt_size ho
      exact enum_begins1 (begins_tuple a its.toArray) pt fun h' he ho hk => fin h' _ _ _ _ _ (en_tup a _ (Nat.ne_of_lt hlt)) (nin2 hlt) he ⟨_, ho, rfl, rfl⟩ hk q
  · subst ex
    cases r1 with
    | cons r rr =>
      cases rr
      obtain ⟨t, rfl⟩ := r
      exact enum_begins1 (begins_text z t) trivial fun h' he ho hk => fin h' _ _ _ _ _ (en_str z t _) (by simp) he ⟨_, ho, rfl, rfl⟩ hk q
def enumD (ds : List D) : List D := (List.range ds.length).map fun i => .tup [.int (i : Nat), (ds[i]?).getD .non]
theorem enumD_get {ds : List D} {i : Nat} {d : D} (h : (enumD ds)[i]? = some d) : ∃ x, ds[i]? = some x ∧ d = .tup [.int (i : Nat), x] := by
  unfold enumD at h
  rw [List.getElem?_map] at h
  by_cases hi : i < ds.length
  · rw [List.getElem?_range hi] at h
    have h2 := Option.some.inj h
    dsimp only at h2
    rw [List.getElem?_eq_getElem hi] at h2
    exact ⟨ds[i], List.getElem?_eq_getElem hi, h2.symm⟩
  · rw [List.getElem?_eq_none (by simpa using hi)] at h; cases h
theorem enumD_len {ds : List D} : (enumD ds).length = ds.length := by simp [enumD]
def mEnum (m : M D) : M (List D) := fun e => (m e).bind fun d e1 => match itemsD d with
  | some ds => .ok (enumD ds) e1
  | none => .stk
theorem yld_pair {T : Addr} {x : V} {i : Nat} {d : D} (hT : H T = none) (r : Rep W F d x) : Yld W F H (.tup [.int (i : Nat), d]) (.ref T) (upd H T (.tup [.int (i : Nat), x])) :=
  .inr ⟨T, _, _, hT, rfl, rfl, rfl, .cons Rep.int (.cons r .nil)⟩
theorem iv_enum {elts : List Expr} {kk : Nat} {tpos : Pos} {x : Expr} {m : M D} (hg : Gl X "enumerate") (hm : X.mg "enumerate" = none) (hx : EV X io E mk x m .fr) (hs : starEach [x] X.env = [(false, eval x X.env)] := by rfl) :
    IV X io E mk (.Tuple elts kk tpos) (.Call (.Name "enumerate" p) [x] [] pos) (mEnum m) none := (pi_enumA hg hm (pa_cons hx pa_nil hs) hs).imp fun σ H K0 h => by
  obtain ⟨g, F, e, rt, l, h⟩ := h
  refine ⟨g, F, e, rt, l, ?_⟩
  unfold mEnum at h
  cases q : m e with
  | exc c fs => rw [q] at h; exact h
  | stk => rw [q] at h; exact h
  | ok d e1 =>
    rw [q] at h
    intro v H1 r
    obtain ⟨F1, rt1, rs, h1, l1, k, n, o⟩ := r.ex
    simp only [R.bind_ok] at h
    cases d with
    | lst ds =>
      obtain ⟨a, vs, ev, q1, r1⟩ := rep_lst.mp k.1
      refine .inl ⟨a, by rw [ev], ⟨vs, SqL.of (l1.fr.sub _ _ q1)⟩, h _ F1 rt1 H1 h1 l1 ⟨fun n d F2 e2 rt2 σ2 H2 hd hs l2 _ => ?_, fun F2 e2 rt2 σ2 H2 hs l2 _ => ?_⟩⟩
      · obtain ⟨d', hd', rfl⟩ := enumD_get hd
        obtain ⟨v, hv, rv⟩ := r1.get hd'
        have q2 : SqL (kx X).K H2 a vs := SqL.of ((hs.trans l2.fr.sub) _ _ q1)
        refine ⟨⟨v, vs, q2, hv⟩, fun y H' hy => ?_⟩
        obtain ⟨T, y', rfl, hT, rfl, hys⟩ := hy
        have hyi := hys vs q2
        rw [hv] at hyi; cases hyi
        exact yld_pair hT (rv.mono hs)
      · exact ⟨vs, SqL.of ((hs.trans l2.fr.sub) _ _ q1), by rw [enumD_len]; exact r1.length.symm⟩
    | tup ds =>
      obtain ⟨a, vs, ev, q1, r1⟩ := rep_tup.mp k.1
      refine .inr (.inl ⟨a, by rw [ev], ⟨vs, sqT_mono l1.fr.sub q1⟩, h _ F1 rt1 H1 h1 l1 ⟨fun n d F2 e2 rt2 σ2 H2 hd hs l2 _ => ?_, fun F2 e2 rt2 σ2 H2 hs l2 _ => ?_⟩⟩)
      · obtain ⟨d', hd', rfl⟩ := enumD_get hd
        obtain ⟨v, hv, rv⟩ := r1.get hd'
        have q2 := sqT_mono (hs.trans l2.fr.sub) q1
        refine ⟨⟨v, vs, q2, hv⟩, fun y H' hy => ?_⟩
        obtain ⟨T, y', rfl, hT, rfl, hys⟩ := hy
        have hyi := hys vs q2
        rw [hv] at hyi; cases hyi
        exact yld_pair hT (rv.mono hs)
      · exact ⟨vs, sqT_mono (hs.trans l2.fr.sub) q1, by rw [enumD_len]; exact r1.length.symm⟩
    | str s =>
      refine .inr (.inr ⟨S s, by rw [Rep.of_str k.1], h _ F1 rt1 H1 h1 l1 ⟨fun n d F2 e2 rt2 σ2 H2 hd hs l2 _ => ?_, fun F2 e2 rt2 σ2 H2 hs l2 _ => ?_⟩⟩)
      · obtain ⟨d', hd', rfl⟩ := enumD_get hd
        rw [List.getElem?_map] at hd'
        cases hc : s[n]? with
        | none => rw [hc] at hd'; cases hd'
        | some c =>
          rw [hc] at hd'
          cases hd'
          have hz : (S s).cps[n]? = some c := by simpa [S] using hc
          refine ⟨⟨_, c, hz, rfl⟩, fun y H' hy => ?_⟩
          obtain ⟨T, y', rfl, hT, rfl, c', hc', rfl⟩ := hy
          rw [hz] at hc'; cases hc'
          exact yld_pair hT (Rep.str (b := [c]))
      · show (S s).cps.size = _
        rw [enumD_len]; simp [S]
    | _ => exact h.elim
end
/-! ### zip of two things of any kind -/
def ItZ (gx1 gy1 : Nat → Hp → V → Prop) (fin1 : Nat → Hp → Prop) (gx2 gy2 : Nat → Hp → V → Prop) (fin2 : Nat → Hp → Prop) : It :=
  ⟨fun i H => (∃ x, gx1 i H x) ∧ ∃ y, gx2 i H y, fun i H v H' => ∃ T x y, v = .ref T ∧ H T = none ∧ H' = upd H T (.tup [x, y]) ∧ gy1 i H x ∧ gy2 i H y,
    fun i H => (fin1 i H ∧ (fin2 i H ∨ ∃ y, gx2 i H y)) ∨ (fin2 i H ∧ ∃ x, gx1 i H x)⟩
theorem turn_zipG {P : Program} {w : World} {K : PySem.W.Frag} {elts : List Expr} {kk : Nat} {tpos : Pos} {gx1 gy1 gx2 gy2 : Nat → Hp → V → Prop} {fin1 fin2 : Nat → Hp → Prop} {z TI TO i1 i2 : Addr} {fp1 fp2 : List Addr} {s1 s2 : Nat → Heap → Prop}
    (S1 : EnSrc P w K gx1 gy1 fin1 i1 fp1 s1) (S2 : EnSrc P w K gx2 gy2 fin2 i2 fp2 s2) (Z : ZipSep2 z TI TO i1 i2 fp1 fp2) :
    Turn P w K (.Tuple elts kk tpos) (ItZ gx1 gy1 fin1 gx2 gy2 fin2) [z, TI, TO, i1, i2] z (fun i h => IsZip h z TI TO .none ∧ IsTupOf2 h TI (.ref i1) (.ref i2) ∧ (∃ a1 a2, IsTupOf2 h TO a1 a2) ∧ s1 i h ∧ s2 i h) where
  mem := by simp
  obj := fun i h sd c hcm => by
    obtain ⟨hz, hTI, ⟨x, y, hTO⟩, h1, h2⟩ := sd
    have q : c = z ∨ c = TI ∨ c = TO ∨ c = i1 ∨ c = i2 := by simpa using hcm
    rcases q with rfl | rfl | rfl | rfl | rfl
    · exact ⟨_, hz, fun v q => nomatch q⟩
    · exact ⟨_, hTI, fun v q => nomatch q⟩
    · exact ⟨_, hTO, fun v q => nomatch q⟩
    · exact S1.obj i h h1
    · exact S2.obj i h h2
  keep := fun i h h' sd k => by
    obtain ⟨hz, hTI, ⟨x, y, hTO⟩, h1, h2⟩ := sd
    exact ⟨k z (by simp) _ hz, k TI (by simp) _ hTI, ⟨x, y, k TO (by simp) _ hTO⟩, S1.keep i h h' h1 fun o q => k i1 (by simp) o q, S2.keep i h h' h2 fun o q => k i2 (by simp) o q⟩
  item := by
    intro Y hP hw hK hc i pins s σ H E J hf sd hg
    obtain ⟨hz, hTI, ⟨a1, a2, hTO⟩, h1, h2⟩ := sd
    obtain ⟨n1, P1, St1, D1, t1, l1, g1, b1⟩ := S1.item Y hP hw hK (J.ok.hd hc) i pins s σ H J h1 hg.1
    obtain ⟨n2, P2, St2, D2, t2, l2, g2, b2⟩ := S2.item Y hP hw hK (J.ok.hd hc) i pins s σ H J h2 hg.2
    subst hP hw hK
    have hzl : z < s.heap.objs.size := Heap.lt_size hz
    have hTIl : TI < s.heap.objs.size := Heap.lt_size hTI
    have hTOl : TO < s.heap.objs.size := Heap.lt_size hTO
    have hi1 : i1 < s.heap.objs.size := by obtain ⟨o, q, _⟩ := S1.obj i _ h1; exact Heap.lt_size q
    have hi2 : i2 < s.heap.objs.size := by obtain ⟨o, q, _⟩ := S2.obj i _ h2; exact Heap.lt_size q
    refine wpAny_pyNext_zipD2_item Z D1 D2 hz hTI hTO t1 t2 l1 l2 fun u1 u2 h' tk p1 p2 hz' hTO' t1' t2' hT hsz hk => ?_
    obtain ⟨x, rx, gxx⟩ := g1 u1 p1
    obtain ⟨y, ry, gyy⟩ := g2 u2 p2
    refine ⟨_, rfl, wpAny_letOwnedTupleGo_zip (s := { s with heap := h', toks := tk }) hz' fun h3 hz3 sb => ?_⟩
    have hT3 : h3.get? s.heap.objs.size = some { cls := .type "tuple", data := .seq #[u1, u2] } := (sb.2 _ (Nat.ne_of_gt hzl)).trans hT
    have nw : ObjOk Y.prog Y.w (upd H s.heap.objs.size (.tup [x, y])) h3 s.heap.objs.size (.tup [x, y]) :=
      ⟨by show 2 ≤ sizeLine; decide, [u1, u2], .cons rx (.cons ry .nil), ⟨_, hT3, rfl, _, rfl⟩⟩
    have J1 : Inv Y pins σ (upd H s.heap.objs.size (.tup [x, y])) { s with heap := h3, toks := tk } :=
      J.turnedNew (ch := [z, TI, TO, i1, i2]) (fun c o hb q => (sb.2 c (fun e => hb (by simp [e]))).trans (hk c o (fun e => hb (by simp [e])) (fun e => hb (by simp [e])) (fun e => hb (by simp [e])) (fun e => hb (by simp [e])) q)) hf (Nat.le_refl _) nw
    refine ⟨.ref s.heap.objs.size, _, J1, rfl, ⟨_, x, y, rfl, J.hok.fresh (Nat.le_refl _), rfl, gxx, gyy⟩, ⟨hz3, ?_, ⟨u1, u2, ?_⟩, ?_, ?_⟩, fun c hcm => ?_⟩
    · exact (sb.2 _ Z.TIz).trans (hk _ _ Z.TIz Z.TITO Z.TIi1 Z.TIi2 hTI)
    · exact (sb.2 _ Z.TOz).trans hTO'
    · exact S1.keep _ _ _ (b1 _ _ t1') fun o q => (sb.2 _ (Ne.symm Z.zi1)).trans q
    · exact S2.keep _ _ _ (b2 _ _ t2') fun o q => (sb.2 _ (Ne.symm Z.zi2)).trans q
    · have hlt : c < s.heap.objs.size := by
        have q : c = z ∨ c = TI ∨ c = TO ∨ c = i1 ∨ c = i2 := by simpa using hcm
        rcases q with rfl | rfl | rfl | rfl | rfl <;> assumption
      rw [upd_ne (Nat.ne_of_lt hlt)]
      exact (hf c hcm).1
  done := by
    intro Y hP hw hK hc i pins s σ H E J hf sd hg
    obtain ⟨hz, hTI, ⟨a1, a2, hTO⟩, h1, h2⟩ := sd
    have end_ : ∀ {n1 n2 : Nat} {P1 P2 : Nat → Value → Prop} {St1 St2 : Nat → Heap → Prop}, Draws P w Y.A.in1 i1 fp1 n1 P1 St1 → Draws P w Y.A.in1 i2 fp2 n2 P2 St2 → St1 i s.heap → St2 i s.heap → i ≤ n1 → i ≤ n2 → (i = n1 ∨ i = n2) →
        wpAny (model P w) Y.A (pyNext (.ref z)) (fun r s1 => r = none ∧ Inv Y pins σ H s1) E s := fun D1 D2 t1 t2 l1 l2 he => by
      refine wpAny_pyNext_zipD2_end Z D1 D2 hz hTI hTO t1 t2 l1 l2 he fun h' tk hk => ⟨rfl, J.turnedL (t' := tk) (ch := [z, TI, TO, i1, i2]) (fun c o hb q =>
        hk c o (fun e => hb (by simp [e])) (fun e => hb (by simp [e])) (fun e => hb (by simp [e])) (fun e => hb (by simp [e])) q) hf⟩
    rcases hg with ⟨f1, f2 | g2⟩ | ⟨f2, g1⟩
    · obtain ⟨P1, St1, D1, t1⟩ := S1.done Y hP hw hK (J.ok.hd hc) i pins s σ H J h1 f1
      obtain ⟨P2, St2, D2, t2⟩ := S2.done Y hP hw hK (J.ok.hd hc) i pins s σ H J h2 f2
      exact end_ D1 D2 t1 t2 (Nat.le_refl _) (Nat.le_refl _) (.inl rfl)
    · obtain ⟨P1, St1, D1, t1⟩ := S1.done Y hP hw hK (J.ok.hd hc) i pins s σ H J h1 f1
      obtain ⟨n2, P2, St2, D2, t2, l2, _⟩ := S2.item Y hP hw hK (J.ok.hd hc) i pins s σ H J h2 g2
      exact end_ D1 D2 t1 t2 (Nat.le_refl _) (Nat.le_of_lt l2) (.inl rfl)
    · obtain ⟨P2, St2, D2, t2⟩ := S2.done Y hP hw hK (J.ok.hd hc) i pins s σ H J h2 f2
      obtain ⟨n1, P1, St1, D1, t1, l1, _⟩ := S1.item Y hP hw hK (J.ok.hd hc) i pins s σ H J h1 g1
      exact end_ D1 D2 t1 t2 (Nat.le_of_lt l1) (Nat.le_refl _) (.inr rfl)
  self := fun A i s Q E sd h => wpAny_pyIter_zip sd.1 h
/-- what may be zipped: a list, a tuple, a text -/
def SrcK (K : PySem.W.Frag) (v : V) (H : Hp) (gx gy : Nat → Hp → V → Prop) (fin : Nat → Hp → Prop) : Prop :=
  (∃ a, v = .ref a ∧ (∃ xs, SqL K H a xs) ∧ gx = (fun i H x => ∃ xs : List V, SqL K H a xs ∧ xs[i]? = some x) ∧ gy = (fun i H x => ∀ xs : List V, SqL K H a xs → xs[i]? = some x) ∧ fin = (fun i H => ∃ xs : List V, SqL K H a xs ∧ xs.length = i)) ∨
  (∃ a, v = .ref a ∧ (∃ xs, SqT K H a xs) ∧ gx = (fun i H x => ∃ xs : List V, SqT K H a xs ∧ xs[i]? = some x) ∧ gy = (fun i H x => ∀ xs : List V, SqT K H a xs → xs[i]? = some x) ∧ fin = (fun i H => ∃ xs : List V, SqT K H a xs ∧ xs.length = i)) ∨
  ∃ z, v = .str z ∧ gx = (fun i _ x => ∃ c, z.cps[i]? = some c ∧ x = .str ⟨#[c]⟩) ∧ gy = (fun i _ x => ∃ c, z.cps[i]? = some c ∧ x = .str ⟨#[c]⟩) ∧ fin = (fun i _ => z.cps.size = i)
section
variable {X : Cx} {io : List Nat} {E : WX} {mk : List Kd} {kr : Kd} {W : Kx} {g : Gh} {F F' H H' : Hp} {rt : Nat → List Addr} {σ : L2.St} {pos p : Pos}
theorem src_of {pins : List (Addr × Obj)} {s : Shared} {v : V} {u : Value} {gx gy : Nat → Hp → V → Prop} {fin : Nat → Hp → Prop} (J : Inv X pins σ H s) (r : RelV v u) (k : SrcK X.K v H gx gy fin) :
    ∃ (ob : Obj) (HB : Heap → Prop) (src : List Addr) (s0 : Addr → Nat → Heap → Prop), Begins u ob HB ∧ HB s.heap ∧ (∀ b ∈ src, b < s.heap.objs.size) ∧ ∀ it, s.heap.objs.size ≤ it → EnSrc X.prog X.w X.K gx gy fin it (it :: src) (s0 it) ∧ ∀ h', h'.get? it = some ob → s0 it 0 h' := by
  rcases k with ⟨a, rfl, ⟨xs, hq⟩, rfl, rfl, rfl⟩ | ⟨a, rfl, ⟨xs, hq⟩, rfl, rfl, rfl⟩ | ⟨z, rfl, rfl, rfl, rfl⟩
  · cases r
    obtain ⟨its, rv, pl, hz⟩ := J.list hq
    exact ⟨_, _, [a], fun it i h => h.IsListIter it a i, begins_list a its.toArray, pl.isList, fun b hb => by rw [List.mem_singleton.mp hb]; exact pl.lt, fun it hi => ⟨en_list a it (Nat.ne_of_lt (Nat.lt_of_lt_of_le pl.lt hi)), fun h' ho => ⟨_, ho, rfl, rfl⟩⟩⟩
  · cases r
    obtain ⟨its, rv, pl, hz⟩ := J.tuple hq
    have pt : s.heap.IsTuple a its.toArray := pl
    have hlt : a < s.heap.objs.size := by obtain ⟨o, ho, _⟩ := pt; exact Heap.lt_size ho
    exact ⟨_, _, [a], fun it i h => h.IsTupleIter it a i, begins_tuple a its.toArray, pt, fun b hb => by rw [List.mem_singleton.mp hb]; exact hlt, fun it hi => ⟨en_tup a it (Nat.ne_of_lt (Nat.lt_of_lt_of_le hlt hi)), fun h' ho => ⟨_, ho, rfl, rfl⟩⟩⟩
  · obtain ⟨t, rfl⟩ := r
    exact ⟨_, _, [], fun it i h => h.IsStrIter it (strIterType z) z t i, begins_text z t, True.intro, (fun b hb => by cases hb), fun it hi => ⟨en_str z t it, fun h' ho => ⟨_, ho, rfl, rfl⟩⟩⟩
theorem zsep (n : Nat) (src1 src2 : List Nat) (h1 : ∀ b ∈ src1, b < n) (h2 : ∀ b ∈ src2, b < n) : ZipSep2 (n + 4) (n + 2) (n + 3) n (n + 1) (n :: src1) ((n + 1) :: src2) := by
  have n1 : ∀ m, n + m ∉ src1 := fun m hm => by have := h1 _ hm; omega
  have n2 : ∀ m, n + m ∉ src2 := fun m hm => by have := h2 _ hm; omega
  have ne : ∀ {a b : Nat}, a < b → a ≠ b := fun h => Nat.ne_of_lt h
  have ne2 : ∀ {a b : Nat}, b < a → a ≠ b := fun h => Nat.ne_of_gt h
  have nc : ∀ {a b : Nat} {l : List Nat}, a ≠ b → a ∉ l → a ∉ b :: l := fun h1 h2 hm => by
    rcases List.mem_cons.mp hm with e | e
    · exact h1 e
    · exact h2 e
  exact ⟨ne (by omega), ne (by omega), ne (by omega), ne2 (by omega), .head _, nc (ne2 (by omega)) (n1 4), nc (ne2 (by omega)) (n1 3), ne2 (by omega), .head _, nc (ne2 (by omega)) (n2 4), nc (ne2 (by omega)) (n2 3), nc (ne (by omega)) (n2 0), nc (ne2 (by omega)) (n1 1)⟩
theorem pi_zipG {x y : Expr} {ta : TA} {tpos : Pos} {elts : List Expr} {kk : Nat} (hg : Gl X "zip") (hm : X.mg "zip" = none) (ha : PA X [x, y] ta)
    (hs : starEach [x, y] X.env = (false, eval x X.env) :: starEach [y] X.env := by rfl) (hpl : (backTo pos (starEach [y] X.env)).any (·.1) = false := by rfl) :
    PI X (.Tuple elts kk tpos) (.Call (.Name "zip" p) [x, y] [] pos) (fun σ H R => ta σ H fun vs H1 => ∃ v1 v2 gx1 gy1 fin1 gx2 gy2 fin2, vs = [v1, v2] ∧ SrcK X.K v1 H1 gx1 gy1 fin1 ∧ SrcK X.K v2 H1 gx2 gy2 fin2 ∧ R (ItZ gx1 gy1 fin1 gx2 gy2 fin2) H1) := by
  refine ⟨fun pins s σ H R I h => ?_⟩
  refine Call_ (ld_blt I hg hm PyProof.Rows.boot_zip (PyProof.Rows.callWith_type1 (thn (ha.run pos pins s σ H _ I h) fun us sh ⟨vs, H1, J, r1, q1⟩ => ?_) hs hpl))
  obtain ⟨v1, v2, gx1, gy1, fin1, gx2, gy2, fin2, ex, k1, k2, q⟩ := q1
  subst ex
  cases r1 with
  | cons ra rr =>
    cases rr with
    | cons rb rr =>
      cases rr
      obtain ⟨o1, HB1, src1, t1, B1, hb1, lt1, en1⟩ := src_of J ra k1
      obtain ⟨o2, HB2, src2, t2, B2, hb2, lt2, en2⟩ := src_of J rb k2
      refine zip_begins2 B1 B2 hb1 hb2 fun h' hz hTI hTO g1 g2 hsz hk => wpAny_pyIter_zip hz ?_
      have J2 : Inv X pins σ H1 { sh with heap := h' } := J.kept (t' := sh.toks) hk
      obtain ⟨S1, z1⟩ := en1 sh.heap.objs.size (Nat.le_refl _)
      obtain ⟨S2, z2⟩ := en2 (sh.heap.objs.size + 1) (Nat.le_succ _)
      have Z := zsep sh.heap.objs.size src1 src2 lt1 lt2
      refine ⟨sh.heap.objs.size + 4, [sh.heap.objs.size + 4, sh.heap.objs.size + 2, sh.heap.objs.size + 3, sh.heap.objs.size, sh.heap.objs.size + 1], _, _, H1, rfl, J2, turn_zipG S1 S2 Z, ⟨hz, hTI, ⟨_, _, hTO⟩, z1 _ g1, z2 _ g2⟩, fun c hcm => ?_, q⟩
      have hle : sh.heap.objs.size ≤ c := by
        have e : c = sh.heap.objs.size + 4 ∨ c = sh.heap.objs.size + 2 ∨ c = sh.heap.objs.size + 3 ∨ c = sh.heap.objs.size ∨ c = sh.heap.objs.size + 1 := by simpa using hcm
        rcases e with rfl | rfl | rfl | rfl | rfl <;> first | exact Nat.le_refl _ | exact Nat.le_add_right _ _
      exact J.fpOk hle (J.hok.fresh hle)
/-- a datum's items as a source -/
theorem src_D {F1 : Hp} {d : D} {v : V} {ds : List D} (r : Rep W F1 d v) (h : itemsD d = some ds) : ∃ (gx gy : Nat → Hp → V → Prop) (fin : Nat → Hp → Prop), (∀ H1, Same F1 H1 → SrcK W.K v H1 gx gy fin) ∧
    ∀ F2 H2, Same F1 F2 → Same F2 H2 → (∀ n d', ds[n]? = some d' → (∃ x, gx n H2 x) ∧ ∀ x, gy n H2 x → Rep W F2 d' x) ∧ fin ds.length H2 := by
  cases d with
  | lst xs =>
    cases h
    obtain ⟨a, vs, ev, q1, r1⟩ := rep_lst.mp r
    refine ⟨_, _, _, fun H1 hs => .inl ⟨a, ev, ⟨vs, SqL.of (hs _ _ q1)⟩, rfl, rfl, rfl⟩, fun F2 H2 h1 h2 => ⟨fun n d' hd => ?_, ?_⟩⟩
    · obtain ⟨w, hw, rw⟩ := r1.get hd
      have q2 : SqL W.K H2 a vs := SqL.of ((h1.trans h2) _ _ q1)
      refine ⟨⟨w, vs, q2, hw⟩, fun x hx => ?_⟩
      have := hx vs q2
      rw [hw] at this; cases this
      exact rw.mono h1
    · exact ⟨vs, SqL.of ((h1.trans h2) _ _ q1), r1.length.symm⟩
  | tup xs =>
    cases h
    obtain ⟨a, vs, ev, q1, r1⟩ := rep_tup.mp r
    refine ⟨_, _, _, fun H1 hs => .inr (.inl ⟨a, ev, ⟨vs, sqT_mono hs q1⟩, rfl, rfl, rfl⟩), fun F2 H2 h1 h2 => ⟨fun n d' hd => ?_, ?_⟩⟩
    · obtain ⟨w, hw, rw⟩ := r1.get hd
      have q2 := sqT_mono (h1.trans h2) q1
      refine ⟨⟨w, vs, q2, hw⟩, fun x hx => ?_⟩
      have := hx vs q2
      rw [hw] at this; cases this
      exact rw.mono h1
    · exact ⟨vs, sqT_mono (h1.trans h2) q1, r1.length.symm⟩
  | str s =>
    cases h
    refine ⟨_, _, _, fun H1 hs => .inr (.inr ⟨S s, Rep.of_str r, rfl, rfl, rfl⟩), fun F2 H2 h1 h2 => ⟨fun n d' hd => ?_, ?_⟩⟩
    · rw [List.getElem?_map] at hd
      cases hc : s[n]? with
      | none => rw [hc] at hd; cases hd
      | some c =>
        rw [hc] at hd
        cases hd
        have hz : (S s).cps[n]? = some c := by simpa [S] using hc
        refine ⟨⟨_, c, hz, rfl⟩, fun x hx => ?_⟩
        obtain ⟨c', hc', rfl⟩ := hx
        rw [hz] at hc'; cases hc'
        exact Rep.str (b := [c])
    · show (S s).cps.size = _
      simp [S]
  | _ => cases h
def zipD (ds es : List D) : List D := List.zipWith (fun a b => .tup [a, b]) ds es
theorem zipD_get {ds es : List D} {i : Nat} {d : D} (h : (zipD ds es)[i]? = some d) : ∃ a b, ds[i]? = some a ∧ es[i]? = some b ∧ d = .tup [a, b] := by
  unfold zipD at h
  rw [List.getElem?_zipWith] at h
  cases q1 : ds[i]? with
  | none => rw [q1] at h; cases h
  | some a =>
    cases q2 : es[i]? with
    | none => rw [q1, q2] at h; cases h
    | some b => rw [q1, q2] at h; exact ⟨a, b, rfl, rfl, (Option.some.inj h).symm⟩
def two : List D → Option (List D × List D)
  | [a, b] => (itemsD a).bind fun x => (itemsD b).map fun y => (x, y)
  | _ => none
def mZip (ms : M (List D)) : M (List D) := fun e => (ms e).bind fun ds e1 => match two ds with
  | some (x, y) => .ok (zipD x y) e1
  | none => .stk
theorem iv_zip {elts : List Expr} {kk : Nat} {tpos : Pos} {x y : Expr} {ms : M (List D)} {os : List Op3} (hg : Gl X "zip") (hm : X.mg "zip" = none) (ha : AV X io E mk [x, y] ms os) (ho : allEx os = true := by rfl)
    (hs : starEach [x, y] X.env = (false, eval x X.env) :: starEach [y] X.env := by rfl) (hpl : (backTo pos (starEach [y] X.env)).any (·.1) = false := by rfl) :
    IV X io E mk (.Tuple elts kk tpos) (.Call (.Name "zip" p) [x, y] [] pos) (mZip ms) none := (pi_zipG hg hm ha hs hpl).imp fun σ H K0 h => by
  obtain ⟨g, F, e, rt, l, h⟩ := h
  refine ⟨g, F, e, rt, l, ?_⟩
  unfold mZip at h
  cases q : ms e with
  | exc c fs => rw [q] at h; exact h
  | stk => rw [q] at h; exact h
  | ok ds e1 =>
    rw [q] at h
    intro vs F1 rt1 H1 s1 l1 a1
    have r := atOs_ex a1 ho
    simp only [L3.R.bind_ok] at h
    cases q2 : two ds with
    | none => rw [q2] at h; exact h.elim
    | some pr =>
      obtain ⟨xs, ys⟩ := pr
      rw [q2] at h
      dsimp only at h
      unfold two at q2
      split at q2
      · rename_i a b
        obtain ⟨xs', hx, q2⟩ := Option.bind_eq_some_iff.mp q2
        obtain ⟨ys', hy, q2⟩ := Option.map_eq_some_iff.mp q2
        cases q2
        simp only [RepL] at r
        obtain ⟨v, w, ev, r1, v2, w2, ev2, r2, r3⟩ := r
        subst r3 ev2 ev
        obtain ⟨gx1, gy1, fin1, k1, m1⟩ := src_D r1 hx
        obtain ⟨gx2, gy2, fin2, k2, m2⟩ := src_D r2 hy
        refine ⟨v, v2, gx1, gy1, fin1, gx2, gy2, fin2, rfl, k1 H1 l1.fr.sub, k2 H1 l1.fr.sub, h _ F1 rt1 H1 s1 l1 ⟨fun n d F2 e2 rt2 σ2 H2 hd hs2 l2 _ => ?_, fun F2 e2 rt2 σ2 H2 hs2 l2 _ => ?_⟩⟩
        · obtain ⟨a', b', ha', hb', rfl⟩ := zipD_get hd
          obtain ⟨p1, _⟩ := m1 F2 H2 hs2 l2.fr.sub
          obtain ⟨p2, _⟩ := m2 F2 H2 hs2 l2.fr.sub
          obtain ⟨e1x, y1⟩ := p1 n a' ha'
          obtain ⟨e2x, y2⟩ := p2 n b' hb'
          refine ⟨⟨e1x, e2x⟩, fun z H' hz => ?_⟩
          obtain ⟨T, x1, x2, rfl, hT, rfl, g1, g2⟩ := hz
          exact .inr ⟨T, _, _, hT, rfl, rfl, rfl, .cons (y1 _ g1) (.cons (y2 _ g2) .nil)⟩
        · obtain ⟨p1, f1⟩ := m1 F2 H2 hs2 l2.fr.sub
          obtain ⟨p2, f2⟩ := m2 F2 H2 hs2 l2.fr.sub
          have hl : (zipD xs ys).length = min xs.length ys.length := by simp [zipD]
          rw [hl]
          by_cases hlt : xs.length = ys.length
          · rw [← hlt, Nat.min_self]
            exact .inl ⟨f1, .inl (by rw [hlt]; exact f2)⟩
          · by_cases h2 : xs.length < ys.length
            · rw [Nat.min_eq_left (Nat.le_of_lt h2)]
              exact .inl ⟨f1, .inr (p2 _ _ (List.getElem?_eq_getElem h2)).1⟩
            · have h3 : ys.length < xs.length := by omega
              rw [Nat.min_eq_right (Nat.le_of_lt h3)]
              exact .inr ⟨f2, (p1 _ _ (List.getElem?_eq_getElem h3)).1⟩
      · cases q2
end
/-! ### what is left to show -/
section
variable {KL : List D → Env3 → Prop} {X : KX} {e : Env3} {m : M D} {ms : M (List D)}
theorem Ok_Rng3 : Ok (mRng3 ms e) KL X = Ok (ms e) (fun ds e1 => Op (int3 ds) fun p => Op (rgD p.1 p.2.1 p.2.2) fun n => KL (irangeC p.1 p.2.2 n) e1) X := by
  unfold mRng3; rw [Ok_bind]; refine Ok_ext fun ds e1 => ?_
  cases int3 ds with
  | none => rfl
  | some p =>
    obtain ⟨i, j, c⟩ := p
    simp only [Op_some]
    cases rgD i j c <;> rfl
theorem Ok_Enum : Ok (mEnum m e) KL X = Ok (m e) (fun d e1 => Op (itemsD d) fun ds => KL (enumD ds) e1) X := by
  unfold mEnum; rw [Ok_bind]; refine Ok_ext fun d e1 => ?_
  cases itemsD d <;> rfl
theorem Ok_Zip : Ok (mZip ms e) KL X = Ok (ms e) (fun ds e1 => Op (two ds) fun p => KL (zipD p.1 p.2) e1) X := by
  unfold mZip; rw [Ok_bind]; refine Ok_ext fun ds e1 => ?_
  cases two ds with
  | none => rfl
  | some p => rfl
end
/-! ### name = [..] on one line -/
section
variable {X : Cx} {io : List Nat} {E : WX} {mk : List Kd} {kr : Kd} {W : Kx} {H : Hp} {σ : L2.St}
theorem tE_fz {m : M D} {k : Kd} {Q : VK} (hk : k.frz = true) (h : tE W io E mk m .fr σ H Q) : tE W io E mk m k σ H Q := by
  obtain ⟨g, F, e, rt, l, h⟩ := h
  refine ⟨g, F, e, rt, l, ?_⟩
  cases q : m e with
  | ok d e' => rw [q] at h; exact fun v H' r => h v H' (r.freeze hk)
  | exc c fs => rw [q] at h; exact h
  | stk => rw [q] at h; exact h
variable {elt tg iter c : Expr} {scope : Scope} {pos py spos : Pos} {src : M (List D)} {gf : D → Env3 → Option Env3} {b : List D → Env3 → Option Env3} {t : M Bool} {el : M D} {ts : List Nat} {sl : Option Nat} {y : Str}
theorem lcS_of {i : Nat} {m : M D} {Dd : Ends} {te : TE} (hi : i ∉ io) (hq : mk.getD i .fr = .own .fr ∨ mk.getD i .fr = .fr) (hl : ∀ Q : VK, tE W io E mk m (.own .fr) σ H Q → te σ H Q) (h : tS W io E mk kr (sSet i m) Dd σ H) : tAsg te (gName i) Dd σ H := by
  have h1 : tE W io E mk m (mk.getD i .fr) σ H (fun x H1 => gName i x σ H1 Dd.nx) := sSet_of hi h
  rcases hq with e | e
  · rw [e] at h1; exact hl _ h1
  · rw [e] at h1; exact hl _ (tE_fz rfl h1)
theorem sv_lc (i : Nat) (own : List (Str × Nat)) (hc : X.calm = true) (hi : IV X io E mk tg iter src sl) (ok : BlkOk X.N X.env.scope scope own) (hg : inBlk X scope fun Y => GV Y io mk tg ts gf) (he : inBlk X scope fun Y => EV Y io E00 mk elt el .fr)
    (hq : mk.getD i .fr = .own .fr ∨ mk.getD i .fr = .fr := by first | exact .inl rfl | exact .inr rfl) (hio : i ∉ io := by decide) (hyN : X.N[i]? = some y := by rfl) (hyl : X.env.scope.names.lookup y = some .local := by rfl)
    (h1 : subL ts (own.map (·.2)) = true := by rfl) (h2 : frOk mk io (own.map (·.2)) = true := by rfl) (h3 : slOut sl (own.map (·.2)) = true := by rfl) (hN : X.N.Nodup := by assumption) (hs : ∀ x, foldedSetIterable iter X.env x = pure x := by intro _; rfl)
    (hk : X.env.scope.kind = .function := by rfl) (hln : (py.line == pos.line) = true := by rfl) (hnm : (scope.names.any fun (n, k) => n == y && (k == .local || k == .cell)) = false := by decide +kernel) :
    SV X io E mk kr (.Assign [.Name y py] (.ListComp elt [⟨tg, iter, [], 0⟩] scope pos) spos) (sSet i (mLc sl (own.map (·.2)) src gf mYes el)) :=
  (ps_setLc (own := own) (te := tE (kx X) io E00 mk el .fr) (g := tG (kx X) io mk ts gf) (tt := tYes) hc hN hyN hyl (sw_true hk hyl hln hnm) hi ok hg (fun _ _ _ _ _ => pts_nil) he hs).imp fun Dd σ H h =>
    lcS_of hio hq (fun Q h => lc_of (fun gh F e rt σ H d x H' Q l y h => tk_any gh F e rt σ H d x H' Q l y h) (subL.h h1) h2 h3 (fun σ H Q h => tYes_of h) Q h) h
theorem sv_lcI (i : Nat) (own : List (Str × Nat)) (hc : X.calm = true) (hi : IV X io E mk tg iter src sl) (ok : BlkOk X.N X.env.scope scope own) (hg : inBlk X scope fun Y => GV Y io mk tg ts gf) (ht : inBlk X scope fun Y => TV Y io E00 mk c t) (he : inBlk X scope fun Y => EV Y io E00 mk elt el .fr)
    (hq : mk.getD i .fr = .own .fr ∨ mk.getD i .fr = .fr := by first | exact .inl rfl | exact .inr rfl) (hio : i ∉ io := by decide) (hyN : X.N[i]? = some y := by rfl) (hyl : X.env.scope.names.lookup y = some .local := by rfl)
    (h1 : subL ts (own.map (·.2)) = true := by rfl) (h2 : frOk mk io (own.map (·.2)) = true := by rfl) (h3 : slOut sl (own.map (·.2)) = true := by rfl) (hN : X.N.Nodup := by assumption) (hs : ∀ x, foldedSetIterable iter X.env x = pure x := by intro _; rfl)
    (hk : X.env.scope.kind = .function := by rfl) (hln : (py.line == pos.line) = true := by rfl) (hnm : (scope.names.any fun (n, k) => n == y && (k == .local || k == .cell)) = false := by decide +kernel) :
    SV X io E mk kr (.Assign [.Name y py] (.ListComp elt [⟨tg, iter, [c], 0⟩] scope pos) spos) (sSet i (mLc sl (own.map (·.2)) src gf t el)) :=
  (ps_setLc (own := own) (te := tE (kx X) io E00 mk el .fr) (g := tG (kx X) io mk ts gf) (tt := tT (kx X) io E00 mk t) hc hN hyN hyl (sw_true hk hyl hln hnm) hi ok hg (fun s H C cl fp => pts_one (ht s H C cl fp)) he hs).imp fun Dd σ H h =>
    lcS_of hio hq (fun Q h => lc_of (fun gh F e rt σ H d x H' Q l y h => tk_any gh F e rt σ H d x H' Q l y h) (subL.h h1) h2 h3 (fun σ H Q h => h) Q h) h
theorem sv_lcT (i : Nat) (own : List (Str × Nat)) (hc : X.calm = true) (hi : IV X io E mk tg iter src sl) (ok : BlkOk X.N X.env.scope scope own) (hg : inBlk X scope fun Y => GT Y io mk tg ts b) (he : inBlk X scope fun Y => EV Y io E00 mk elt el .fr)
    (hq : mk.getD i .fr = .own .fr ∨ mk.getD i .fr = .fr := by first | exact .inl rfl | exact .inr rfl) (hio : i ∉ io := by decide) (hyN : X.N[i]? = some y := by rfl) (hyl : X.env.scope.names.lookup y = some .local := by rfl)
    (h1 : subL ts (own.map (·.2)) = true := by rfl) (h2 : frOk mk io (own.map (·.2)) = true := by rfl) (h3 : slOut sl (own.map (·.2)) = true := by rfl) (hN : X.N.Nodup := by assumption) (hs : ∀ x, foldedSetIterable iter X.env x = pure x := by intro _; rfl)
    (hk : X.env.scope.kind = .function := by rfl) (hln : (py.line == pos.line) = true := by rfl) (hnm : (scope.names.any fun (n, k) => n == y && (k == .local || k == .cell)) = false := by decide +kernel) :
    SV X io E mk kr (.Assign [.Name y py] (.ListComp elt [⟨tg, iter, [], 0⟩] scope pos) spos) (sSet i (mLc sl (own.map (·.2)) src (gfT b) mYes el)) :=
  (ps_setLc (own := own) (te := tE (kx X) io E00 mk el .fr) (g := tGt (kx X) io mk ts b) (tt := tYes) hc hN hyN hyl (sw_true hk hyl hln hnm) hi ok hg (fun _ _ _ _ _ => pts_nil) he hs).imp fun Dd σ H h =>
    lcS_of hio hq (fun Q h => lc_of tk_tup (subL.h h1) h2 h3 (fun σ H Q h => tYes_of h) Q h) h
theorem sv_lcTI (i : Nat) (own : List (Str × Nat)) (hc : X.calm = true) (hi : IV X io E mk tg iter src sl) (ok : BlkOk X.N X.env.scope scope own) (hg : inBlk X scope fun Y => GT Y io mk tg ts b) (ht : inBlk X scope fun Y => TV Y io E00 mk c t) (he : inBlk X scope fun Y => EV Y io E00 mk elt el .fr)
    (hq : mk.getD i .fr = .own .fr ∨ mk.getD i .fr = .fr := by first | exact .inl rfl | exact .inr rfl) (hio : i ∉ io := by decide) (hyN : X.N[i]? = some y := by rfl) (hyl : X.env.scope.names.lookup y = some .local := by rfl)
    (h1 : subL ts (own.map (·.2)) = true := by rfl) (h2 : frOk mk io (own.map (·.2)) = true := by rfl) (h3 : slOut sl (own.map (·.2)) = true := by rfl) (hN : X.N.Nodup := by assumption) (hs : ∀ x, foldedSetIterable iter X.env x = pure x := by intro _; rfl)
    (hk : X.env.scope.kind = .function := by rfl) (hln : (py.line == pos.line) = true := by rfl) (hnm : (scope.names.any fun (n, k) => n == y && (k == .local || k == .cell)) = false := by decide +kernel) :
    SV X io E mk kr (.Assign [.Name y py] (.ListComp elt [⟨tg, iter, [c], 0⟩] scope pos) spos) (sSet i (mLc sl (own.map (·.2)) src (gfT b) t el)) :=
  (ps_setLc (own := own) (te := tE (kx X) io E00 mk el .fr) (g := tGt (kx X) io mk ts b) (tt := tT (kx X) io E00 mk t) hc hN hyN hyl (sw_true hk hyl hln hnm) hi ok hg (fun s H C cl fp => pts_one (ht s H C cl fp)) he hs).imp fun Dd σ H h =>
    lcS_of hio hq (fun Q h => lc_of tk_tup (subL.h h1) h2 h3 (fun σ H Q h => h) Q h) h
end
end L3

/-! # L3Q: defs that are handed two own lists -/
namespace L3
open PySem PySem.Spec L2
open PyProof.Rows hiding St
inductive FRq where
  | ok (d : D) (row : List D) (ls : List D) | stk
/-- .. and give both back -/
def spQ (W : Kx) (n : Nat) (kr : Kd) (den : List D → List D → List D → FRq) : Sp := fun vs H Q _ =>
  ∃ F ds p q vr vq row ls ws, Same F H ∧ vs = .ref p :: .ref q :: ws ∧ p ≠ q ∧ H p = some (.lst vr) ∧ F p = none ∧ RepL W F row vr ∧ H q = some (.lst vq) ∧ F q = none ∧ RepL W F ls vq ∧ RepL W F ds ws ∧ ds.length = n ∧ match den row ls ds with
    | .ok d row' ls' => ∀ v H' F' rs vr' vq', Same F F' → Same F' H' → (∀ b o, H b = some o → b ≠ p → b ≠ q → H' b = some o) → (∀ b o, F' b = some o → F b = some o ∨ H b = none) → H' p = some (.lst vr') → F' p = none → RepL W F' row' vr' → H' q = some (.lst vq') → F' q = none → RepL W F' ls' vq' →
        RepK W F' H' kr d v rs → rs.Nodup → (∀ b, b ∈ rs → H b = none) → Q v H'
    | .stk => False
def lst2 (e : Env3) : Option (List D × List D) := match e[0]?, e[1]? with
  | some (some (D.lst a)), some (some (D.lst b)) => some (a, b)
  | _, _ => none
def denQ (len : Nat) (m : M3) : List D → List D → List D → FRq := fun row ls ds => match m (env0 len (.lst row :: .lst ls :: ds)) with
  | .rt d e => (match lst2 e with
    | some (a, b) => .ok d a b
    | none => .stk)
  | .nx e => (match lst2 e with
    | some (a, b) => .ok .non a b
    | none => .stk)
  | _ => .stk
theorem lst2_h {e : Env3} {a b : List D} (h : lst2 e = some (a, b)) : e[0]? = some (some (.lst a)) ∧ e[1]? = some (some (.lst b)) := by
  unfold lst2 at h
  split at h
  · rename_i q1 q2
    cases h
    exact ⟨q1, q2⟩
  · cases h
section
variable {P : Program} {w : World} {K : PySem.W.Frag} {mg : Str → Option Value} {base : Heap} {W : Kx}
theorem rl_startQ {F H : Hp} {mk : List Kd} {ds row ls : List D} {ws vr vq : List V} {p q : Addr} {N : List Str} (hs : Same F H) (hpq : p ≠ q) (hp : H p = some (.lst vr)) (hF : F p = none) (rr : RepL W F row vr) (hq : H q = some (.lst vq)) (hFq : F q = none) (rq : RepL W F ls vq) (r : RepL W F ds ws) (hl : ds.length + 2 ≤ N.length)
    (h0 : mk.getD 0 .fr = .own .fr) (h1 : mk.getD 1 .fr = .own .fr) (hk : ∀ i, 1 < i → i < ds.length + 2 → mk.getD i .fr = .fr) :
    Rl W [0, 1] ⟨F, H, [p, q], L2.start N (.ref p :: .ref q :: ws), []⟩ F mk (env0 N.length (.lst row :: .lst ls :: ds)) (fun i => if i = 0 then [p] else if i = 1 then [q] else []) (L2.start N (.ref p :: .ref q :: ws)) H where
  fr := ⟨hs, fun b o h _ => h, fun b o h => .inl h, Same.refl _, fun b hb => by
    rcases List.mem_cons.mp hb with e | e
    · rw [e]; exact ⟨_, hp⟩
    · rw [List.mem_singleton.mp e]; exact ⟨_, hq⟩⟩
  len := by rw [env0_length (by simpa using hl), start_length (by rw [List.length_cons, List.length_cons, ← r.length]; exact hl)]; exact Nat.le_refl _
  var := fun i d h => by
    have g1 := env0_get h
    match i, g1 with
    | 0, g1 =>
      have e : D.lst row = d := by simpa using g1
      subst e
      refine ⟨.ref p, start_get rfl, ?_⟩
      rw [h0, if_pos rfl]
      simp only [RepK]
      exact ⟨p, vr, [], rfl, hp, hF, (repKs_fr (W := W) (H := H)).mpr ⟨rr, rfl⟩, rfl⟩
    | 1, g1 =>
      have e : D.lst ls = d := by simpa using g1
      subst e
      refine ⟨.ref q, start_get rfl, ?_⟩
      rw [h1, if_neg (by decide), if_pos rfl]
      simp only [RepK]
      exact ⟨q, vq, [], rfl, hq, hFq, (repKs_fr (W := W) (H := H)).mpr ⟨rq, rfl⟩, rfl⟩
    | i + 2, g1 =>
      have h2 : ds[i]? = some d := by simpa using g1
      obtain ⟨v, hv, rv⟩ := r.get h2
      refine ⟨v, start_get (by simpa using hv), ?_⟩
      rw [hk (i + 2) (by omega) (Nat.add_lt_add_right (List.getElem?_eq_some_iff.mp h2).1 2), if_neg (by omega), if_neg (by omega)]
      exact ⟨rv, rfl⟩
  emp := fun i h => by
    match i with
    | 0 => exact absurd (by unfold env0; rfl) (h (.lst row))
    | 1 => exact absurd (by unfold env0; rfl) (h (.lst ls))
    | i + 2 => rw [if_neg (by omega), if_neg (by omega)]
  nd := fun i => by
    by_cases h0 : i = 0
    · rw [if_pos h0]; simp
    · rw [if_neg h0]; by_cases h1 : i = 1
      · rw [if_pos h1]; simp
      · rw [if_neg h1]; simp
  dj := fun i j b hij m1 m2 => by
    match i, j with
    | 0, 0 => exact hij rfl
    | 1, 1 => exact hij rfl
    | 0, 1 =>
      have e1 : b = p := by simpa using m1
      have e2 : b = q := by simpa using m2
      exact hpq (e1.symm.trans e2)
    | 1, 0 =>
      have e1 : b = q := by simpa using m1
      have e2 : b = p := by simpa using m2
      exact hpq (e2.symm.trans e1)
    | i + 2, _ => rw [if_neg (by omega), if_neg (by omega)] at m1; cases m1
    | _, j + 2 => rw [if_neg (by omega), if_neg (by omega)] at m2; cases m2
  own := fun i b h => by
    match i with
    | 0 =>
      have e1 : b = p := by simpa using h
      exact .inr ⟨by rw [e1]; exact .head _, .inl (.head _)⟩
    | 1 =>
      have e1 : b = q := by simpa using h
      exact .inr ⟨by rw [e1]; exact .tail _ (.head _), .inl (.tail _ (.head _))⟩
    | i + 2 => rw [if_neg (by omega), if_neg (by omega)] at h; cases h
  pin := fun _ _ => rfl
theorem rowOfQ {F' H' : Hp} {mk : List Kd} {g : Gh} {e : Env3} {rt : Nat → List Addr} {σ : L2.St} {p : Addr} {row' : List D} {io : List Nat} {i : Nat} (l : Rl W io g F' mk e rt σ H') (hi : i ∈ io) (h0 : mk.getD i .fr = .own .fr) (hp : g.σ0[i]? = some (some (.ref p))) (he : e[i]? = some (some (.lst row'))) :
    ∃ vr', H' p = some (.lst vr') ∧ F' p = none ∧ RepL W F' row' vr' ∧ p ∈ rt i := by
  obtain ⟨v, hv, k⟩ := l.var i _ he
  rw [l.pin i hi, hp] at hv
  cases hv
  rw [h0] at k
  simp only [RepK] at k
  obtain ⟨p', vs, qs, e1, e2, e3, rs, e4⟩ := k
  cases e1
  exact ⟨vs, e2, e3, ((repKs_fr (W := W) (H := H') (F := F')).mp rs).1, by rw [e4]; exact .head _⟩
theorem pq_out {p q b : Addr} (h1 : b ≠ p) (h2 : b ≠ q) : b ∉ [p, q] := fun m => by
  rcases List.mem_cons.mp m with z | z
  · exact h1 z
  · exact h2 (List.mem_singleton.mp z)
theorem fn_rowQ {x qual : Str} {st : Stmt} {f : Addr} {fd : FuncData} {N ps : List Str} {p0 p1 : Str} {k : Nat} {mk : List Kd} {kr : Kd} {m : M3} (Fn : Fun K x qual st f fd) (S : FnScope N (p0 :: p1 :: ps) (defScope st)) (h0 : mk.getD 0 .fr = .own .fr) (h1 : mk.getD 1 .fr = .own .fr) (hk : allFr mk.tail.tail ps.length = true) (hl : ps.length + 2 ≤ N.length)
    (body : BodyOk P w K mg base N qual st f k [0, 1] mk kr m) : FnOk P w K mg base (L2.CX P w) (k + 1) f fd (p0 :: p1 :: ps) (spQ ⟨K, mg⟩ ps.length kr (denQ N.length m)) := by
  refine Fn.okX S (fun vs H Q E h => ?_) fun cdv A outer s H vs Q E hr h => ?_
  · obtain ⟨F, ds, p, q, vr, vq, row, ls, ws, _, ev, _, _, _, _, _, _, _, r, e, _⟩ := h
    subst ev
    rw [List.length_cons, List.length_cons, List.length_cons, List.length_cons, ← r.length, e]
  · obtain ⟨F, ds, p, q, vr, vq, row, ls, ws, hs, ev, hpq, hp, hF, rr, hq, hFq, rq, r, e, h⟩ := h
    subst ev
    refine ⟨_, body cdv A outer s H E ⟨rfl, takes_of rfl rfl rfl rfl, passes_of rfl, hr⟩, ⟨F, H, [p, q], L2.start N (.ref p :: .ref q :: ws), []⟩, F, env0 N.length (.lst row :: .lst ls :: ds), _, rl_startQ hs hpq hp hF rr hq hFq rq r (by rw [e]; exact hl) h0 h1 (fun i hi1 hi2 => ?_), ?_⟩
    · obtain ⟨j, rfl⟩ : ∃ j, i = j + 2 := ⟨i - 2, by omega⟩
      have := allFr_h hk j (by rw [← e]; omega)
      cases mk with
      | nil => rfl
      | cons a mk =>
        cases mk with
        | nil => rfl
        | cons a2 mk => simpa using this
    have hst : (L2.start N (.ref p :: .ref q :: ws))[0]? = some (some (.ref p)) := start_get rfl
    have hst1 : (L2.start N (.ref p :: .ref q :: ws))[1]? = some (some (.ref q)) := start_get rfl
    unfold denQ at h
    cases qm : m (env0 N.length (.lst row :: .lst ls :: ds)) with
    | rt d e' =>
      rw [qm] at h
      rintro v σ' H' _ r
      dsimp only at h
      cases qe : lst2 e' with
      | none => rw [qe] at h; exact h.elim
      | some ab =>
        obtain ⟨row', ls'⟩ := ab
        rw [qe] at h
        obtain ⟨qe0, qe1⟩ := lst2_h qe
        rcases r with ⟨F', rt, rs, h1', l, k, n, o⟩ | ⟨hkr, F', rt, i, hif, h1', l, k⟩ | ⟨F', rt, i, hi0, h1', l, k⟩
        · obtain ⟨vr', a1, a2, a3, a4⟩ := rowOfQ l (.head _) h0 hst qe0
          obtain ⟨vq', b1, b2, b3, b4⟩ := rowOfQ l (.tail _ (.head _)) h1 hst1 qe1
          exact h v H' F' rs vr' vq' h1' l.fr.sub (fun b u z hb hc => l.fr.keep b u z (pq_out hb hc)) (l.fr.frz0 rfl) a1 a2 a3 b1 b2 b3 k n fun p hp => (o p hp).2.1
        rotate_left
        · obtain ⟨vr', a1, a2, a3, a4⟩ := rowOfQ l (.head _) h0 hst qe0
          obtain ⟨vq', b1, b2, b3, b4⟩ := rowOfQ l (.tail _ (.head _)) h1 hst1 qe1
          have hnp : p ∉ rt i := fun m => l.dj 0 i p (fun z => hi0 (by rw [← z]; exact .head _)) a4 m
          have hnq : q ∉ rt i := fun m => l.dj 1 i q (fun z => hi0 (by rw [← z]; exact .tail _ (.head _))) b4 m
          exact h v H' F' (rt i) vr' vq' h1' l.fr.sub (fun b u z hb hc => l.fr.keep b u z (pq_out hb hc)) (l.fr.frz0 rfl) a1 a2 a3 b1 b2 b3 k (l.nd i) fun b hb => by
            rcases l.own i b hb with z | z
            · exact z
            · rcases List.mem_cons.mp z.1 with z | z
              · exact absurd (by rw [← z]; exact hb) hnp
              · exact absurd (by rw [← List.mem_singleton.mp z]; exact hb) hnq
        · subst hkr
          obtain ⟨vr', a1, a2, a3, a4⟩ := rowOfQ l (.head _) h0 hst qe0
          obtain ⟨vq', b1, b2, b3, b4⟩ := rowOfQ l (.tail _ (.head _)) h1 hst1 qe1
          have hn : ∀ q ∈ rt i, F' q = none := fun q hq => (l.none hq).1
          have hnp : p ∉ rt i := fun m => l.dj 0 i p (fun z => hif.1 (by rw [← z]; exact .head _)) a4 m
          have hnq : q ∉ rt i := fun m => l.dj 1 i q (fun z => hif.1 (by rw [← z]; exact .tail _ (.head _))) b4 m
          have ho : ∀ b ∈ rt i, H b = none := fun b hb => by
            rcases l.own i b hb with z | z
            · exact z
            · rcases List.mem_cons.mp z.1 with z | z
              · exact absurd (by rw [← z]; exact hb) hnp
              · exact absurd (by rw [← List.mem_singleton.mp z]; exact hb) hnq
          have fr2 := l.fr.freeze hn (fun p hp => .inl (ho p hp))
          exact h v H' (frz F' H' (rt i)) [] vr' vq' (h1'.trans (frz_of hn)) fr2.sub (fun b u z hb hc => fr2.keep b u z (pq_out hb hc)) (fr2.frz0 rfl) a1 (by rw [frz_out hnp]; exact a2) (a3.mono (frz_of hn)) b1 (by rw [frz_out hnq]; exact b2) (b3.mono (frz_of hn)) ⟨RepK.toRep (frz_of hn) hif.2 k fun q hq => frz_in hq, rfl⟩ .nil fun q hq => by cases hq
    | nx e' =>
      rw [qm] at h
      intro σ' F' rt' H' _ h1' l
      dsimp only at h
      cases qe : lst2 e' with
      | none => rw [qe] at h; exact h.elim
      | some ab =>
        obtain ⟨row', ls'⟩ := ab
        rw [qe] at h
        obtain ⟨qe0, qe1⟩ := lst2_h qe
        obtain ⟨vr', a1, a2, a3, a4⟩ := rowOfQ l (.head _) h0 hst qe0
        obtain ⟨vq', b1, b2, b3, b4⟩ := rowOfQ l (.tail _ (.head _)) h1 hst1 qe1
        exact h .non H' F' [] vr' vq' h1' l.fr.sub (fun b u z hb hc => l.fr.keep b u z (pq_out hb hc)) (l.fr.frz0 rfl) a1 a2 a3 b1 b2 b3 (RepK.flat_of rfl Rep.non) .nil fun p hp => by cases hp
    | exc c fs => rw [qm] at h; exact h.elim
    | bk e' => rw [qm] at h; exact h.elim
    | ct e' => rw [qm] at h; exact h.elim
    | stk => rw [qm] at h; exact h.elim
end
structure CalQ (P : Program) (w : World) (K : PySem.W.Frag) (mg : Str → Option Value) (base : Heap) (k : Nat) (x : Str) (n : Nat) (kr : Kd) (den : List D → List D → List D → FRq) : Prop where
  ex : ∃ (f : Addr) (fd : FuncData) (ps : List Str), FnOk P w K mg base (L2.CX P w) k f fd ps (spQ ⟨K, mg⟩ n kr den) ∧ mg x = some (.ref f) ∧ PySem.W.keepIn K (.ref f) = true ∧ Binds K fd ps []
section
variable {X : Cx} {io : List Nat} {E : WX} {mk : List Kd} {W : Kx} {g : Gh} {F F' H H' : Hp} {rt : Nat → List Addr} {σ : L2.St}
/-- two slots' own lists have changed -/
theorem Rl.turn2 {e : Env3} {i j : Nat} {p q : Addr} {row' ls' : List D} {vr' vq' : List V} (l : Rl W io g F mk e rt σ H) (hij : i ≠ j) (hpq : p ≠ q) (hi : mk.getD i .fr = .own .fr) (hj : mk.getD j .fr = .own .fr) (hp : σ[i]? = some (some (.ref p))) (hq : σ[j]? = some (some (.ref q))) (hr : rt i = [p]) (hrj : rt j = [q]) (hl : i < e.length) (hlj : j < e.length)
    (h1 : Same F F') (h2 : Same F' H') (h3 : ∀ b o, H b = some o → b ≠ p → b ≠ q → H' b = some o) (h4 : ∀ b o, F' b = some o → F b = some o ∨ H b = Option.none) (a1 : H' p = some (.lst vr')) (a2 : F' p = Option.none) (a3 : RepL W F' row' vr') (b1 : H' q = some (.lst vq')) (b2 : F' q = Option.none) (b3 : RepL W F' ls' vq') :
    Rl W io g F' mk ((e.set i (some (.lst row'))).set j (some (.lst ls'))) rt σ H' := by
  have l1 : Rl W io g F' mk (e.set i (some (.lst row'))) rt σ (fun b => if b = q then H q else H' b) := by
    refine l.turn hi hp hr hl h1 (fun b o hb => ?_) (fun b o hb hbp => ?_) h4 ?_ a2 a3
    · by_cases z : b = q
      · subst z; rw [b2] at hb; cases hb
      · show (if b = q then H q else H' b) = _
        rw [if_neg z]; exact h2 b o hb
    · by_cases z : b = q
      · subst z
        show (if b = b then H b else H' b) = _
        rw [if_pos rfl]; exact hb
      · show (if b = q then H q else H' b) = _
        rw [if_neg z]; exact h3 b o hb hbp z
    · show (if p = q then H q else H' p) = _
      rw [if_neg hpq]; exact a1
  refine l1.turn hj hq hrj (by rw [List.length_set]; exact hlj) (Same.refl _) h2 (fun b o hb hbq => ?_) (fun b o hb => .inl hb) b1 b2 b3
  have hb' : (if b = q then H q else H' b) = some o := hb
  rw [if_neg hbq] at hb'
  exact hb'
def lstIJ (i j : Nat) (e : Env3) : Option (List D × List D) := match e[i]?, e[j]? with
  | some (some (D.lst a)), some (some (D.lst b)) => some (a, b)
  | _, _ => none
theorem lstIJ_h {i j : Nat} {e : Env3} {a b : List D} (h : lstIJ i j e = some (a, b)) : e[i]? = some (some (.lst a)) ∧ e[j]? = some (some (.lst b)) := by
  unfold lstIJ at h
  split at h
  · rename_i q1 q2
    cases h
    exact ⟨q1, q2⟩
  · cases h
def mCallQ (i j : Nat) (den : List D → List D → List D → FRq) (ms : M (List D)) : M D := fun e => (mVar i e).bind fun _ e => (mVar j e).bind fun _ e => (ms e).bind fun ds e1 => match lstIJ i j e1 with
  | some (row, ls) => (match den row ls ds with
    | .ok d row' ls' => .ok d ((e1.set i (some (.lst row'))).set j (some (.lst ls')))
    | .stk => .stk)
  | none => .stk
theorem callQ_of {n i j : Nat} {kr : Kd} {den : List D → List D → List D → FRq} {ms : M (List D)} {os : List Op3} (hij : i ≠ j) (hi : mk.getD i .fr = .own .fr) (hj : mk.getD j .fr = .own .fr) (ho : allEx os = true) (hn : os.length = n) (Q : VK) (h : tE W io E mk (mCallQ i j den ms) kr σ H Q) : tCallSD (spQ W n kr den) [] (fun σ c d H => E c d σ H) (tCons (tVar i) (tCons (tVar j) (tAs W io E mk ms os))) σ H Q := by
  obtain ⟨g, F, e, rt, l, h⟩ := h
  unfold mCallQ mVar at h
  cases h0 : e[i]? with
  | none => rw [h0] at h; exact h.elim
  | some o0 =>
    cases o0 with
    | none => rw [h0] at h; exact h.elim
    | some d0 =>
      rw [h0] at h
      simp only [R.bind_ok] at h
      obtain ⟨v0, hv0, _⟩ := l.var i d0 h0
      refine ⟨v0, hv0, ?_⟩
      cases h0' : e[j]? with
      | none => rw [h0'] at h; exact h.elim
      | some o0' =>
        cases o0' with
        | none => rw [h0'] at h; exact h.elim
        | some d0' =>
          rw [h0'] at h
          simp only [R.bind_ok] at h
          obtain ⟨v1, hv1, _⟩ := l.var j d0' h0'
          refine ⟨v1, hv1, g, F, e, rt, l, ?_⟩
          cases q : ms e with
          | exc c fs => rw [q] at h; exact h
          | stk => rw [q] at h; exact h
          | ok ds e1 =>
            rw [q] at h
            intro vs F1 rt1 H1 s1 l1 a1
            simp only [R.bind_ok] at h
            cases qe : lstIJ i j e1 with
            | none => rw [qe] at h; exact h.elim
            | some ab =>
              obtain ⟨row, ls⟩ := ab
              obtain ⟨h2, h2'⟩ := lstIJ_h qe
              rw [qe] at h
              dsimp only at h
              obtain ⟨p, vr, b1, b2, b3, b4, b5⟩ := l1.slot hi h2
              obtain ⟨r, vq, c1, c2, c3, c4, c5⟩ := l1.slot hj h2'
              rw [b1] at hv0
              cases hv0
              rw [c1] at hv1
              cases hv1
              have hpr : p ≠ r := fun z => l1.dj i j p hij (by rw [b5]; exact .head _) (by rw [c5, z]; exact .head _)
              refine ⟨F1, ds, p, r, vr, vq, row, ls, vs, l1.fr.sub, by rw [List.append_nil], hpr, b2, b3, b4, c2, c3, c4, atOs_ex a1 ho, by rw [a1.len.1, hn], ?_⟩
              cases q2 : den row ls ds with
              | stk => rw [q2] at h; exact h
              | ok d row' ls' =>
                rw [q2] at h
                intro v H' F' rs vr' vq' f1 f2 f3 f4 f5 f6 f7 f8 f9 f10 k nd o
                have hl : i < e1.length := (List.getElem?_eq_some_iff.mp h2).1
                have hlj : j < e1.length := (List.getElem?_eq_some_iff.mp h2').1
                refine h v H' ⟨F', rt1, rs, s1.trans f1, l1.turn2 hij hpr hi hj b1 c1 b5 c5 hl hlj f1 f2 f3 f4 f5 f6 f7 f8 f9 f10, k, nd, fun q hq => ⟨fun j m => ?_, l1.fr.old (o q hq), fun m => ?_⟩⟩
                · obtain ⟨_, u, z⟩ := l1.none m
                  rw [o q hq] at z; cases z
                · obtain ⟨u, z⟩ := l1.fr.wr q m
                  rw [o q hq] at z; cases z
variable {x : Str} {p pos : Pos} {es : List Expr} {n k j : Nat} {kr : Kd} {ms : M (List D)} {os : List Op3}
theorem ev_callQ (i1 i2 : Nat) {y z : Str} {py pz : Pos} {den : List D → List D → List D → FRq} (c : CalQ X.prog X.w X.K X.mg X.base k x n kr den) (hr : Room j X.A) (tk : Takes X E) (hg : Gl X x) (hy : PE X (.Name y py) (tVar i1)) (hz : PE X (.Name z pz) (tVar i2)) (ha : AV X io E mk es ms os) (hij : i1 ≠ i2 := by decide) (hi : mk.getD i1 .fr = .own .fr := by rfl) (hj : mk.getD i2 .fr = .own .fr := by rfl) (hk : k ≤ j := by decide) (ho : allEx os = true := by rfl) (hn : os.length = n := by rfl) (hdb : (x == ("__debug__" : Str)) = false := by decide)
    (he2 : starEach (.Name z pz :: es) X.env = (false, eval (.Name z pz) X.env) :: starEach es X.env := by rfl) (he : starEach (.Name y py :: .Name z pz :: es) X.env = (false, eval (.Name y py) X.env) :: starEach (.Name z pz :: es) X.env := by rfl) (hpl : (backTo pos (starEach (.Name z pz :: es) X.env)).any (·.1) = false := by rfl) : EV X io E mk (.Call (.Name x p) (.Name y py :: .Name z pz :: es) [] pos) (mCallQ i1 i2 den ms) kr := by
  obtain ⟨f, fd, ps, F, hm, kp, b⟩ := c.ex
  exact (pe_callSD (E := fun σ c d H => E c d σ H) F (hr.mono hk) hg hm kp b .nil (passAt' tk) (pa_cons hy (pa_cons hz ha he2) he) hdb he hpl).imp fun σ H Q h => callQ_of (W := kx X) hij hi hj ho hn Q h
end
def OkQ (r : FRq) (K : D → List D → List D → Prop) (_t : Tg K := .mk) : Prop := match r with
  | .ok d row ls => K d row ls
  | .stk => False
theorem OkQ_ok {d : D} {row ls : List D} {K : D → List D → List D → Prop} : OkQ (.ok d row ls) K = K d row ls := rfl
section
variable {ms : M (List D)} {e : Env3} {K : D → Env3 → Prop} {X : Str → List (Str × D) → Prop}
theorem OpL_lst2 {i j : Nat} {e : Env3} {K : List D → List D → Prop} : (match lstIJ i j e with | some (a, b) => K a b | none => False) = OpL e[i]? fun a => OpL e[j]? fun b => K a b := by
  unfold lstIJ
  cases e[i]? with
  | none => rfl
  | some o =>
    cases o with
    | none => rfl
    | some d =>
      cases d with
      | lst a =>
        cases e[j]? with
        | none => rfl
        | some o2 =>
          cases o2 with
          | none => rfl
          | some d2 => cases d2 <;> rfl
      | _ => rfl
theorem Ok_CallQ {i j : Nat} {den : List D → List D → List D → FRq} : Ok (mCallQ i j den ms e) K X = Op (e[i]?).join fun _ => Op (e[j]?).join fun _ => Ok (ms e) (fun ds e1 => OpL e1[i]? fun row => OpL e1[j]? fun ls => OkQ (den row ls ds) fun d row' ls' => K d ((e1.set i (some (.lst row'))).set j (some (.lst ls')))) X := by
  unfold mCallQ
  rw [Ok_bind, Ok_var]; refine Op_ext fun _ => ?_
  rw [Ok_bind, Ok_var]; refine Op_ext fun _ => ?_
  rw [Ok_bind]; refine Ok_ext fun ds e1 => ?_
  refine Eq.trans ?_ OpL_lst2
  cases lstIJ i j e1 with
  | none => rfl
  | some ab =>
    obtain ⟨a, b⟩ := ab
    show Ok (match den a b ds with | .ok d row' ls' => _ | .stk => _) K X = OkQ (den a b ds) _
    cases den a b ds <;> rfl
theorem OkQ_denQ {n : Nat} {m : M3} {row ls ds : List D} {K : D → List D → List D → Prop} : OkQ (denQ n m row ls ds) K = Po (m (env0 n (.lst row :: .lst ls :: ds))) ⟨fun e => OpL e[0]? fun a => OpL e[1]? fun b => K .non a b, fun d e => OpL e[0]? fun a => OpL e[1]? fun b => K d a b, fun _ => False, fun _ => False, fun _ _ => False⟩ := by
  unfold denQ
  cases m (env0 n (.lst row :: .lst ls :: ds)) with
  | nx e =>
    refine Eq.trans ?_ (OpL_lst2 (i := 0) (j := 1) (e := e) (K := fun a b => K .non a b))
    show OkQ (match lst2 e with | some (a, b) => .ok .non a b | none => .stk) K = _
    have z : lst2 e = lstIJ 0 1 e := rfl
    rw [z]
    cases lstIJ 0 1 e with
    | none => rfl
    | some ab => obtain ⟨a, b⟩ := ab; rfl
  | rt d e =>
    refine Eq.trans ?_ (OpL_lst2 (i := 0) (j := 1) (e := e) (K := fun a b => K d a b))
    show OkQ (match lst2 e with | some (a, b) => .ok d a b | none => .stk) K = _
    have z : lst2 e = lstIJ 0 1 e := rfl
    rw [z]
    cases lstIJ 0 1 e with
    | none => rfl
    | some ab => obtain ⟨a, b⟩ := ab; rfl
  | exc c fs => rfl
  | bk e => rfl
  | ct e => rfl
  | stk => rfl
end
end L3

/-! # L3R: instances of the program's classes -/
namespace L3
open PySem PySem.Spec L2
open PyProof.Rows hiding St
def fldOf (f : Str) : List Str → List D → Option D
  | n :: ns, x :: xs => if (f == n) = true then some x else fldOf f ns xs
  | _, _ => none
theorem fldOf_h {W : Kx} {F : Hp} {f : Str} : ∀ {fs : List (Str × V)} {xs : List D} {d : D}, RepL W F xs (fs.map (·.2)) → fldOf f (fs.map (·.1)) xs = some d → ∃ v, fs.lookup f = some v ∧ Rep W F d v
  | [], _, _, _, h => by simp [fldOf] at h
  | (n, v) :: fs, [], _, _, h => by simp [fldOf] at h
  | (n, v) :: fs, x :: xs, d, r, h => by
    simp only [List.map_cons, fldOf] at h
    simp only [List.map_cons, RepL] at r
    obtain ⟨v', r', er, r1, r2⟩ := r
    cases er
    rw [List.lookup_cons]
    cases q : f == n with
    | true =>
      rw [q, if_pos rfl] at h
      cases h
      exact ⟨v, rfl, r1⟩
    | false =>
      rw [q, if_neg Bool.false_ne_true] at h
      exact fldOf_h r2 h
def mFld (c f : Str) (m : M D) : M D := fun e => (m e).bind fun d e1 => match d with
  | .ins c' ns xs => if (c' == c) = true then (match fldOf f ns xs with
    | some x => .ok x e1
    | none => .stk) else .stk
  | _ => .stk
section
variable {X : Cx} {io : List Nat} {E : WX} {mk : List Kd} {C : Addr}
theorem ev_fld {a : Expr} {c f : Str} {pos : Pos} {m : M D} (ha : EV X io E mk a m .fr) (hc : X.mg c = some (.ref C)) (cl : Cls X.K C) (na : NoAttr X.K C f) (hb : attributeBase a f X.env (eval a X.env) = eval a X.env := by rfl) : EV X io E mk (.Attribute a f pos) (mFld c f m) .fr :=
  (pe_fld ha hb).imp fun σ H Q h => by
  obtain ⟨g, F, e, rt, l, h⟩ := h
  refine ⟨g, F, e, rt, l, ?_⟩
  unfold mFld at h
  cases q : m e with
  | exc c fs => rw [q] at h; exact h
  | stk => rw [q] at h; exact h
  | ok d e1 =>
    rw [q] at h
    intro v H' r
    obtain ⟨F1, rt1, rs, h1, l1, k, n, o⟩ := r.ex
    simp only [R.bind_ok] at h
    cases d with
    | ins c' ns xs =>
      dsimp only at h
      cases qc : c' == c with
      | false => rw [qc] at h; exact h.elim
      | true =>
        rw [qc, if_pos rfl] at h
        have ec : c' = c := eq_of_beq qc
        subst ec
        cases qf : fldOf f ns xs with
        | none => rw [qf] at h; exact h.elim
        | some x =>
          rw [qf] at h
          obtain ⟨p, C', dx, fs, ev, eF, eC, en, rx⟩ := (by simpa [Rep] using k.1 : ∃ a C dx fs, v = .ref a ∧ F1 a = some (.ins C dx fs) ∧ (kx X).mg c' = some (.ref C) ∧ fs.map (·.1) = ns ∧ RepL (kx X) F1 xs (fs.map (·.2)))
          have eC2 : X.mg c' = some (.ref C') := eC
          rw [hc] at eC2
          cases eC2
          subst en
          obtain ⟨w, hw, rw'⟩ := fldOf_h rx qf
          exact ⟨p, C, dx, fs, w, ev, l1.fr.sub _ _ eF, cl, na, hw, h _ H' ⟨F1, rt1, [], h1, l1, ⟨rw', rfl⟩, .nil, fun p hp => by cases hp⟩⟩
    | _ => exact h.elim
variable {e : Env3} {m : M D} {K : D → Env3 → Prop} {Y : Str → List (Str × D) → Prop}
def fldD (c f : Str) : D → Option D
  | .ins c' ns xs => if (c' == c) = true then fldOf f ns xs else none
  | _ => none
theorem Ok_Fld {c f : Str} : Ok (mFld c f m e) K Y = Ok (m e) (fun d e1 => Op (fldD c f d) fun x => K x e1) Y := by
  unfold mFld
  rw [Ok_bind]; refine Ok_ext fun d e1 => ?_
  cases d with
  | ins c' ns xs =>
    unfold fldD
    dsimp only
    cases c' == c with
    | false => rfl
    | true =>
      simp only [if_true]
      cases fldOf f ns xs <;> rfl
  | _ => rfl
end
end L3

/-! # L3S: instances made, fields stored, own methods called -/
namespace L3
open PySem PySem.Spec L2
open PyProof.Rows hiding St
section
variable {X : Cx} {CX : CXT} {k : Nat} {f C : Addr} {fd : FuncData} {ps : List Str} {sp : Sp} {dvs : List V} {ds : List Value} {E : L2.St → XK} {x m : Str} {p pos apos : Pos} {e o : Expr} {es : List Expr} {ta : TE} {t : TA}
theorem run_makeSD {pins : List (Addr × Obj)} {σ : L2.St} {H : Hp} {s : Shared} {Q : VK} {us : List Value} {vs : List V} (M : Mk X.K C f) (F : FnOk X.prog X.w X.K X.mg X.base CX k f fd ps sp) (hr : Room (k + 1) X.A) (hb : Binds X.K fd ps ds) (hd : Vals dvs ds)
    (hx : PassesAt CX X σ (E σ)) (I : Inv X pins σ H s) (r : Vals vs us)
    (h : ∀ x dx, H x = none → H dx = none → dx ≠ x → sp (.ref x :: (vs ++ dvs)) (upd (upd H dx (.own x)) x (.ins C dx [])) (fun v H2 => v = .non ∧ Q (.ref x) H2) (E σ)) :
    wpAny (model X.prog X.w) X.A (call (.ref C) us) (EP X pins σ Q) X.xe s := by
  have hq := h (s.heap.objs.size + 1) s.heap.objs.size (I.hok.fresh (Nat.le_succ _)) (I.hok.fresh (Nat.le_refl _)) (Nat.ne_of_lt (Nat.lt_succ_self _))
  have I2 := Inv.made (C := C) I
  have r2 : Vals (V.ref (s.heap.objs.size + 1) :: (vs ++ dvs)) (Value.ref (s.heap.objs.size + 1) :: (us ++ ds)) := .cons rfl (r.append hd)
  have hl : (Value.ref (s.heap.objs.size + 1) :: us ++ ds).length = ps.length := by
    have e := r2.length
    rw [F.len _ _ _ _ hq] at e
    exact e.symm
  refine wpAny_call (make_map (f := f) I.kIn M.makes M.init (beq_iff_eq.mp M.fn) (codeAny_mono (F.run _ X.stack _ _ ⟨Value.ref (s.heap.objs.size + 1) :: us, []⟩ (Value.ref (s.heap.objs.size + 1) :: (us ++ ds)) _ _ (E σ) (hr.make C us [])
    (I2.env0.make C us []) (hb _ (Value.ref (s.heap.objs.size + 1) :: us) I2.kIn hl) r2 hq) fun r s' hq' => ?_))
  cases r with
  | error e => exact hx pins _ _ e s' I2 hq'
  | ok fl =>
    cases fl with
    | ret u =>
      obtain ⟨v, H', I3, rv, ev, q3⟩ := I2.after hq'
      subst ev
      exact ⟨rv, ⟨V.ref (s.heap.objs.size + 1), H', I3, rfl, q3⟩⟩
    | next => exact False.elim hq'
    | brk => exact False.elim hq'
    | cont => exact False.elim hq'
def tMakeSD (C : Addr) (sp : Sp) (dvs : List V) (E : L2.St → XK) (t : TA) : TE := fun σ H Q => t σ H fun vs H1 => ∀ x dx, H1 x = none → H1 dx = none → dx ≠ x → sp (.ref x :: (vs ++ dvs)) (upd (upd H1 dx (.own x)) x (.ins C dx [])) (fun v H2 => v = .non ∧ Q (.ref x) H2) (E σ)
theorem pe_makeSD (M : Mk X.K C f) (F : FnOk X.prog X.w X.K X.mg X.base CX k f fd ps sp) (hr : Room (k + 1) X.A) (hg : Gl X x) (hm : X.mg x = some (.ref C)) (hb : Binds X.K fd ps ds) (hd : Vals dvs ds) (hx : ∀ σ, PassesAt CX X σ (E σ))
    (ha : PA X (e :: es) t) (hdb : (x == ("__debug__" : Str)) = false := by decide) (he : starEach (e :: es) X.env = (false, eval e X.env) :: starEach es X.env := by rfl) (hpl : (backTo pos (starEach es X.env)).any (·.1) = false := by rfl) :
    PE X (.Call (.Name x p) (e :: es) [] pos) (tMakeSD C sp dvs E t) := by
  refine ⟨fun pins s σ H Q I h => ?_⟩
  refine wpAny_Call_Name_kw (ld_glob I hg hm ?_ hdb)
  refine PySem.W.callWith_K (h₀ := X.base) I.ok.mod.kin M.kp (thn (ha.run pos pins s σ H _ I h) fun us s1 ⟨vs, H1, I1, r, q⟩ => ⟨I1.kIn, ?_⟩) he hpl
  exact run_makeSD M F hr hb hd (hx σ) I1 r q
def tMethSD (C : Addr) (m : Str) (sp : Sp) (dvs : List V) (E : L2.St → XK) (ta : TE) (t : TA) : TE := fun σ H Q => ta σ H fun x H1 => ∃ a dx fs, x = .ref a ∧ H1 a = some (.ins C dx fs) ∧ fs.lookup m = none ∧ t σ H1 fun vs H2 => sp (x :: (vs ++ dvs)) H2 Q (E σ)
theorem pe_methSD {pl : Sem Bool} (he : PE X o ta) (c : Cls X.K C) (hm : Meth X.K C m f) (F : FnOk X.prog X.w X.K X.mg X.base CX k f fd ps sp) (hr : Room k X.A) (hb : Binds X.K fd ps ds) (hd : Vals dvs ds) (hx : ∀ σ, PassesAt CX X σ (E σ)) (ha : PA X (e :: es) t)
    (ht : eval (.Call (.Attribute o m apos) (e :: es) [] pos) X.env = (do
      let ov ← eval o X.env
      standAt apos.atName
      let (f, first) ← holding [ov] (getMethod ov m pl)
      callWith pos f first (backTo pos (starEach (e :: es) X.env)) (backToKw pos (keywordEach [] X.env))) := by rfl)
    (hq : starEach (e :: es) X.env = (false, eval e X.env) :: starEach es X.env := by rfl) (hpl : (backTo pos (starEach es X.env)).any (·.1) = false := by rfl) :
    PE X (.Call (.Attribute o m apos) (e :: es) [] pos) (tMethSD C m sp dvs E ta t) := by
  refine ⟨fun pins s σ H Q I h => ?_⟩
  refine PySem.W.methodCall_KW (pl := pl) (thn (he.run pins s σ H _ I h) fun u s1 ⟨x, H1, I1, rx, a, dx, fs, ex, ea, l, q⟩ => ?_) ht
  subst ex
  obtain rfl : u = Value.ref a := rx
  refine getmeth_ok I1 ea c hm l ?_
  refine PySem.W.callWith_K (first := [.ref a]) (h₀ := X.base) I1.ok.mod.kin hm.kp (thn (ha.run pos pins s1 σ H1 _ I1 q) fun us s2 ⟨vs, H2, I2, r, q2⟩ => ⟨I2.kIn, ?_⟩) hq hpl
  exact run_fnSD (us := .ref a :: us) (vs := .ref a :: vs) F hr hb hd (hx σ) I2 (.cons rfl r) q2
theorem pe_methSD0 {pl : Sem Bool} (he : PE X o ta) (c : Cls X.K C) (hm : Meth X.K C m f) (F : FnOk X.prog X.w X.K X.mg X.base CX k f fd ps sp) (hr : Room k X.A) (hb : Binds X.K fd ps ds) (hd : Vals dvs ds) (hx : ∀ σ, PassesAt CX X σ (E σ))
    (ht : eval (.Call (.Attribute o m apos) [] [] pos) X.env = (do
      let ov ← eval o X.env
      standAt apos.atName
      let (f, first) ← holding [ov] (getMethod ov m pl)
      callWith pos f first (backTo pos (starEach [] X.env)) (backToKw pos (keywordEach [] X.env))) := by rfl) :
    PE X (.Call (.Attribute o m apos) [] [] pos) (tMethSD C m sp dvs E ta tNil) := by
  refine ⟨fun pins s σ H Q I h => ?_⟩
  refine PySem.W.methodCall_KW (pl := pl) (thn (he.run pins s σ H _ I h) fun u s1 ⟨x, H1, I1, rx, a, dx, fs, ex, ea, l, q⟩ => ?_) ht
  subst ex
  obtain rfl : u = Value.ref a := rx
  refine getmeth_ok I1 ea c hm l ?_
  exact PySem.W.callWith_K0 (first := [.ref a]) I1.kIn hm.kp (run_fnSD (us := [.ref a]) (vs := [.ref a]) F hr hb hd (hx σ) I1 (.cons rfl .nil) q)
end

/-! ### a field stored -/
def putN (f : Str) : List Str → List Str
  | [] => [f]
  | g :: r => if g = f then g :: r else g :: putN f r
def putX (f : Str) (d : D) : List Str → List D → List D
  | [], _ => [d]
  | g :: r, x :: xs => if g = f then d :: xs else x :: putX f d r xs
  | _ :: _, [] => []
theorem putF_names (f : Str) (v : V) : ∀ fs : List (Str × V), (putF f v fs).map (·.1) = putN f (fs.map (·.1))
  | [] => rfl
  | (g, x) :: r => by
    rw [show putF f v ((g, x) :: r) = (if g = f then (g, v) :: r else (g, x) :: putF f v r) from rfl]
    simp only [List.map_cons, putN]
    split
    · rfl
    · rw [List.map_cons, putF_names f v r]
theorem putF_rep {W : Kx} {F : Hp} {f : Str} {d : D} {v : V} (r : Rep W F d v) : ∀ {fs : List (Str × V)} {xs : List D}, RepL W F xs (fs.map (·.2)) → RepL W F (putX f d (fs.map (·.1)) xs) ((putF f v fs).map (·.2))
  | [], xs, _ => by simp only [List.map_nil, putX]; exact .cons r .nil
  | (g, x) :: fs, [], h => by simp [RepL] at h
  | (g, x) :: fs, y :: ys, h => by
    rw [show putF f v ((g, x) :: fs) = (if g = f then (g, v) :: fs else (g, x) :: putF f v fs) from rfl]
    simp only [List.map_cons, putX]
    rw [List.map_cons, repL_cons] at h
    split
    · exact .cons r h.2
    · exact .cons h.1 (putF_rep r h.2)
def sFldS (c f : Str) (i : Nat) (m : M D) : M3 := fun e => (m e).st fun d e1 => match e1[i]? with
  | some (some (.ins c' ns xs)) => if (c' == c) = true then (if ns.length < 1000 then .nx (e1.set i (some (.ins c' (putN f ns) (putX f d ns xs)))) else .stk) else .stk
  | _ => .stk
structure FldT (K : PySem.W.Frag) (mg : Str → Option Value) (c f : Str) : Prop where
  ex : ∃ C, mg c = some (.ref C) ∧ Cls K C ∧ NoAttr K C f
section
variable {W : Kx} {io : List Nat} {g : Gh} {F F' H H' : Hp} {mk : List Kd} {e : Env3} {rt : Nat → List Addr} {σ : L2.St}
/-- a slot's own instance -/
theorem Rl.slotI {i : Nat} {c : Str} {ns : List Str} {xs : List D} (l : Rl W io g F mk e rt σ H) (hi : mk.getD i .fr = .obj) (he : e[i]? = some (some (.ins c ns xs))) : ∃ a C dx fs, σ[i]? = some (some (.ref a)) ∧ H a = some (.ins C dx fs) ∧ F a = Option.none ∧ W.mg c = some (.ref C) ∧ fs.map (·.1) = ns ∧ RepL W F xs (fs.map (·.2)) ∧ rt i = [a] := by
  obtain ⟨v, hv, k⟩ := l.var i _ he
  rw [hi] at k
  simp only [RepK] at k
  rcases k with ⟨c', ns', xs', a, C, dx, fs, e0, e1, e2, e3, e4, e5, rx, e6⟩ | ⟨z0, _⟩
  · cases e0
    subst e1
    exact ⟨a, C, dx, fs, hv, e2, e3, e4, e5, rx, e6⟩
  · cases z0
/-- the thing at a slot's own place has changed -/
theorem Rl.turnG {i : Nat} {p : Addr} {d' : D} {o' : HO} (l : Rl W io g F mk e rt σ H) (hp : σ[i]? = some (some (.ref p))) (hr : rt i = [p]) (hl : i < e.length) (hF : F p = Option.none) (k' : RepK W F (upd H p o') (mk.getD i .fr) d' (.ref p) [p]) :
    Rl W io g F mk (e.set i (some d')) rt σ (upd H p o') := by
  have pm : p ∈ rt i := by rw [hr]; exact .head _
  have st : ∀ {j q}, q ∈ rt j → j ≠ i → upd H p o' q = H q ∧ F q = Option.none := fun {j q} hq hj => by
    obtain ⟨b1, o, b2⟩ := l.none hq
    exact ⟨upd_ne fun z => l.dj i j p (Ne.symm hj) pm (z ▸ hq), b1⟩
  refine ⟨⟨fun b o h => by rw [upd_ne (ne_of_none h hF)]; exact l.fr.sub b o h, fun b o h hb => ?_, l.fr.frz, l.fr.f0, fun q hq => ?_⟩, by rw [List.length_set]; exact l.len, fun j d h => ?_, fun j h => ?_, l.nd, l.dj, l.own, l.pin⟩
  · have hbp : b ≠ p := fun z => by
      subst z
      rcases l.own i b pm with z | z
      · rw [h] at z; cases z
      · exact hb z.1
    rw [upd_ne hbp]; exact l.fr.keep b o h hb
  · by_cases hqp : q = p
    · subst hqp; exact ⟨_, upd_same⟩
    · obtain ⟨o, z⟩ := l.fr.wr q hq
      exact ⟨o, by rw [upd_ne hqp]; exact z⟩
  · by_cases hj : j = i
    · subst hj
      rw [List.getElem?_set_self hl] at h
      cases h
      exact ⟨.ref p, hp, by rw [hr]; exact k'⟩
    · rw [List.getElem?_set_ne (Ne.symm hj)] at h
      obtain ⟨v, hv, k⟩ := l.var j d h
      exact ⟨v, hv, k.frame (Same.refl _) fun q hq => st hq hj⟩
  · by_cases hj : j = i
    · subst hj
      exact absurd (List.getElem?_set_self hl) (h _)
    · refine l.emp j fun d z => h d ?_
      rw [List.getElem?_set_ne (Ne.symm hj)]
      exact z
end
section
variable {X : Cx} {io : List Nat} {E : WX} {mk : List Kd} {kr : Kd} {W : Kx} {g : Gh} {F F' H H' : Hp} {rt : Nat → List Addr} {σ : L2.St}
theorem sv_fld (i : Nat) {x : Str} {c f : Str} {value : Expr} {m : M D} {py pos pos' : Pos} (T : FldT X.K X.mg c f) (hv : EV X io E mk value m .fr) (hy : PE X (.Name x py) (tVar i)) (hi : mk.getD i .fr = .obj := by rfl)
    (hs : swapsWith value (some (.Attribute (.Name x py) f pos')) pos.line X.env = pure false := by rfl) : SV X io E mk kr (.Assign [.Attribute (.Name x py) f pos'] value pos) (sFldS c f i m) := (ps_fld hy hv hs).imp fun D σ H h => by
  obtain ⟨C, hC, cl, na⟩ := T.ex
  obtain ⟨g, F, e, rt, l, h⟩ := h
  refine ⟨g, F, e, rt, l, ?_⟩
  unfold sFldS at h
  cases q : m e with
  | exc c fs => rw [q] at h; exact h σ rfl
  | stk => rw [q] at h; exact h
  | ok d e1 =>
    rw [q] at h
    intro v H' r
    obtain ⟨F1, rt1, rs, h1, l1, k, n, o⟩ := r.ex
    simp only [R.st_ok] at h
    cases q2 : e1[i]? with
    | none => rw [q2] at h; exact h.elim
    | some oe =>
      cases oe with
      | none => rw [q2] at h; exact h.elim
      | some de =>
        cases de with
        | ins c' ns xs =>
          rw [q2] at h
          dsimp only at h
          cases qc : c' == c with
          | false => rw [qc] at h; exact h.elim
          | true =>
            rw [qc, if_pos rfl] at h
            have ec : c' = c := eq_of_beq qc
            subst ec
            by_cases hn : ns.length < 1000
            case neg => rw [if_neg hn] at h; exact h.elim
            rw [if_pos hn] at h
            obtain ⟨a, C', dx, fs, b1, b2, b3, b4, b5, b6, b7⟩ := l1.slotI hi q2
            have hC' : X.mg c' = some (.ref C') := b4
            rw [hC] at hC'
            cases hC'
            subst b5
            refine ⟨_, b1, a, C, dx, fs, rfl, b2, cl, na, by simpa using hn, ?_⟩
            refine h σ F1 rt1 _ rfl h1 (l1.turnG b1 b7 (List.getElem?_eq_some_iff.mp q2).1 b3 ?_)
            rw [hi]
            simp only [RepK]
            exact .inl ⟨c', _, _, a, C, dx, _, rfl, rfl, upd_same, b3, hC, putF_names f v fs, putF_rep k.1 b6, rfl⟩
        | _ => rw [q2] at h; exact h.elim
end

/-! ### __init__ -/
def spI (W : Kx) (n : Nat) (c : Str) (den : List D → FR) : Sp := fun vs H Q E =>
  ∃ F ds C dx p ws, Same F H ∧ vs = .ref p :: ws ∧ H p = some (.ins C dx []) ∧ F p = none ∧ W.mg c = some (.ref C) ∧ RepL W F ds ws ∧ ds.length = n ∧ match den ds with
    | .ok d => ∀ H' F', Same F F' → Same F' H' → (∀ b o, H b = some o → b ≠ p → H' b = some o) → (∀ b o, F' b = some o → F b = some o ∨ H b = none ∨ b = p) → Rep W F' d (.ref p) → Q .non H'
    | .exc c fs => ∀ C a H' F' ws, W.mg c = some (.ref C) → Same F F' → Same F' H' → (∀ b o, H b = some o → b ≠ p → H' b = some o) → (∀ b o, F' b = some o → F b = some o ∨ H b = none) → H' a = some (.xd ((fs.map (·.1)).zip ws)) → RepL W F' (fs.map (·.2)) ws → E (.ref C) (some a) H'
    | .stk => False
def denI (len : Nat) (c : Str) (m : M3) : List D → FR := fun ds => match m (env0 len (.ins c [] [] :: ds)) with
  | .nx e => (match (e[0]? : Option (Option D)) with
    | some (some (D.ins c' ns xs)) => .ok (D.ins c' ns xs)
    | _ => .stk)
  | .exc c fs => .exc c fs
  | _ => .stk
section
variable {P : Program} {w : World} {K : PySem.W.Frag} {mg : Str → Option Value} {base : Heap} {W : Kx}
theorem rl_startI {F H : Hp} {mk : List Kd} {ds : List D} {ws : List V} {p C dx : Addr} {c : Str} {N : List Str} (hs : Same F H) (hp : H p = some (.ins C dx [])) (hF : F p = none) (hC : W.mg c = some (.ref C)) (r : RepL W F ds ws) (hl : ds.length + 1 ≤ N.length) (h0 : mk.getD 0 .fr = .obj) (hk : ∀ i, 0 < i → i < ds.length + 1 → mk.getD i .fr = .fr) :
    Rl W [0] ⟨F, H, [p], L2.start N (.ref p :: ws), []⟩ F mk (env0 N.length (.ins c [] [] :: ds)) (fun i => if i = 0 then [p] else []) (L2.start N (.ref p :: ws)) H where
  fr := ⟨hs, fun b o h _ => h, fun b o h => .inl h, Same.refl _, fun q hq => by rw [List.mem_singleton.mp hq]; exact ⟨_, hp⟩⟩
  len := by rw [env0_length (by simpa using hl), start_length (by rw [List.length_cons, ← r.length]; exact hl)]; exact Nat.le_refl _
  var := fun i d h => by
    have h1 := env0_get h
    cases i with
    | zero =>
      have e : D.ins c [] [] = d := by simpa using h1
      subst e
      refine ⟨.ref p, start_get rfl, ?_⟩
      rw [h0, if_pos rfl]
      simp only [RepK]
      exact .inl ⟨c, [], [], p, C, dx, [], rfl, rfl, hp, hF, hC, rfl, .nil, rfl⟩
    | succ i =>
      have h2 : ds[i]? = some d := by simpa using h1
      obtain ⟨v, hv, rv⟩ := r.get h2
      refine ⟨v, start_get (by simpa using hv), ?_⟩
      rw [hk (i + 1) (Nat.succ_pos _) (Nat.succ_lt_succ (List.getElem?_eq_some_iff.mp h2).1), if_neg (Nat.succ_ne_zero _)]
      exact ⟨rv, rfl⟩
  emp := fun i h => by
    split
    · rename_i hi
      subst hi
      refine absurd ?_ (h (.ins c [] []))
      unfold env0
      rfl
    · rfl
  nd := fun i => by split <;> simp
  dj := fun i j q hij h1 h2 => by
    split at h1
    · split at h2
      · rename_i a b; exact hij (a.trans b.symm)
      · cases h2
    · cases h1
  own := fun i q h => by
    split at h
    · rename_i hi
      exact .inr ⟨h, .inl (by rw [hi]; exact .head _)⟩
    · cases h
  pin := fun _ _ => rfl
theorem fn_initI {x qual : Str} {st : Stmt} {f : Addr} {fd : FuncData} {N ps : List Str} {p0 : Str} {k : Nat} {mk : List Kd} {m : M3} {c : Str} (Fn : Fun K x qual st f fd) (S : FnScope N (p0 :: ps) (defScope st)) (h0 : mk.getD 0 .fr = .obj) (hk : allFr mk.tail ps.length = true) (hl : ps.length + 1 ≤ N.length)
    (body : BodyOk P w K mg base N qual st f k [0] mk .fr m) : FnOk P w K mg base (L2.CX P w) (k + 1) f fd (p0 :: ps) (spI ⟨K, mg⟩ ps.length c (denI N.length c m)) := by
  refine Fn.okX S (fun vs H Q E h => ?_) fun cdv A outer s H vs Q E hr h => ?_
  · obtain ⟨F, ds, C, dx, p, ws, _, ev, _, _, _, r, e, _⟩ := h
    subst ev
    rw [List.length_cons, List.length_cons, ← r.length, e]
  · obtain ⟨F, ds, C, dx, p, ws, hs, ev, hp, hF, hC, r, e, h⟩ := h
    subst ev
    refine ⟨_, body cdv A outer s H E ⟨rfl, takes_of rfl rfl rfl rfl, passes_of rfl, hr⟩, ⟨F, H, [p], L2.start N (.ref p :: ws), []⟩, F, env0 N.length (.ins c [] [] :: ds), _, rl_startI hs hp hF hC r (by rw [e]; exact hl) h0 (fun i hi1 hi2 => ?_), ?_⟩
    · obtain ⟨j, rfl⟩ : ∃ j, i = j + 1 := ⟨i - 1, by omega⟩
      have := allFr_h hk j (by rw [← e]; omega)
      cases mk with
      | nil => rfl
      | cons a mk => simpa using this
    have hst : (L2.start N (.ref p :: ws))[0]? = some (some (.ref p)) := start_get rfl
    unfold denI at h
    cases q : m (env0 N.length (.ins c [] [] :: ds)) with
    | nx e' =>
      rw [q] at h
      intro σ' F' rt' H' _ h1 l
      dsimp only at h
      cases qe : e'[0]? with
      | none => rw [qe] at h; exact h.elim
      | some oe =>
        cases oe with
        | none => rw [qe] at h; exact h.elim
        | some de =>
          cases de with
          | ins c' ns xs =>
            rw [qe] at h
            obtain ⟨a, C', dx', fs, b1, b2, b3, b4, b5, b6, b7⟩ := l.slotI h0 qe
            rw [l.pin 0 (List.mem_singleton.mpr rfl), hst] at b1
            cases b1
            refine h H' (frz F' H' [p]) (h1.trans (frz_of fun q hq => by rw [List.mem_singleton.mp hq]; exact b3)) (frz_sub l.fr.sub) (fun b o hb hbp => l.fr.keep b o hb fun m => hbp (List.mem_singleton.mp m)) (fun b o hb => ?_) ?_
            · unfold L3.frz at hb
              split at hb
              · rename_i hm; exact .inr (.inr (List.mem_singleton.mp hm))
              · rcases l.fr.frz0 rfl b o hb with z | z
                · exact .inl z
                · exact .inr (.inl z)
            · simp only [Rep]
              exact ⟨p, C', dx', fs, rfl, by rw [frz_in (.head _)]; exact b2, b4, b5, RepL.mono (frz_of fun q hq => by rw [List.mem_singleton.mp hq]; exact b3) b6⟩
          | _ => rw [qe] at h; exact h.elim
    | rt d e' => rw [q] at h; exact h.elim
    | exc c fs =>
      rw [q] at h
      intro σ _ C a σ' H' F' ws hC _ h1 fr hx rx
      exact h C a H' F' ws hC h1 fr.sub (fun b u z hb => fr.keep b u z fun m => hb (List.mem_singleton.mp m)) (fr.frz0 rfl) hx rx
    | bk e' => rw [q] at h; exact h.elim
    | ct e' => rw [q] at h; exact h.elim
    | stk => rw [q] at h; exact h.elim
structure CalI (P : Program) (w : World) (K : PySem.W.Frag) (mg : Str → Option Value) (base : Heap) (k : Nat) (x : Str) (n : Nat) (den : List D → FR) : Prop where
  ex : ∃ (C f : Addr) (fd : FuncData) (ps : List Str), Mk K C f ∧ FnOk P w K mg base (L2.CX P w) k f fd ps (spI ⟨K, mg⟩ n x den) ∧ mg x = some (.ref C) ∧ Binds K fd ps []
structure CalM (P : Program) (w : World) (K : PySem.W.Frag) (mg : Str → Option Value) (base : Heap) (k : Nat) (c m : Str) (n : Nat) (kr : Kd) (den : List D → FR) : Prop where
  ex : ∃ (C f : Addr) (fd : FuncData) (ps : List Str), Cls K C ∧ Meth K C m f ∧ FnOk P w K mg base (L2.CX P w) k f fd ps (spP ⟨K, mg⟩ n kr den) ∧ mg c = some (.ref C) ∧ Binds K fd ps []
end
section
variable {X : Cx} {io : List Nat} {E : WX} {mk : List Kd} {W : Kx} {g : Gh} {F F' H H' : Hp} {rt : Nat → List Addr} {σ : L2.St}
variable {x : Str} {p pos : Pos} {e0 : Expr} {es : List Expr} {n k j : Nat} {kr : Kd} {ms : M (List D)} {os : List Op3}
theorem ev_make {den : List D → FR} (c : CalI X.prog X.w X.K X.mg X.base k x n den) (hr : Room j X.A) (tk : Takes X E) (hg : Gl X x) (ha : AV X io E mk (e0 :: es) ms os) (hk : k + 1 ≤ j := by decide) (ho : allEx os = true := by rfl) (hn : os.length = n := by rfl) (hdb : (x == ("__debug__" : Str)) = false := by decide)
    (he : starEach (e0 :: es) X.env = (false, eval e0 X.env) :: starEach es X.env := by rfl) (hpl : (backTo pos (starEach es X.env)).any (·.1) = false := by rfl) : EV X io E mk (.Call (.Name x p) (e0 :: es) [] pos) (mCall den ms) .fr := by
  obtain ⟨C, f, fd, ps, M, F, hm, b⟩ := c.ex
  refine (pe_makeSD (E := fun σ c d H => E c d σ H) M F (hr.mono hk) hg hm b .nil (passAt' tk) ha hdb he hpl).imp fun σ H Q h => ?_
  obtain ⟨g, F, e, rt, l, h⟩ := h
  refine ⟨g, F, e, rt, l, ?_⟩
  unfold mCall at h
  cases q : ms e with
  | exc c fs => rw [q] at h; exact h
  | stk => rw [q] at h; exact h
  | ok ds e1 =>
    rw [q] at h
    intro vs F1 rt1 H1 s1 l1 a1 p dx hp hdx hne
    have hFp : F1 p = none := fresh_F l1.fr.sub hp
    have hFd : F1 dx = none := fresh_F l1.fr.sub hdx
    have hup : ∀ b o, H1 b = some o → upd (upd H1 dx (.own p)) p (.ins C dx []) b = some o := fun b o hb => by
      rw [upd_ne (ne_of_none hb hp), upd_ne (ne_of_none hb hdx)]; exact hb
    have hdn : ∀ b, upd (upd H1 dx (.own p)) p (.ins C dx []) b = none → H1 b = none := fun b hb => by
      cases q : H1 b with
      | none => rfl
      | some o => rw [hup b o q] at hb; cases hb
    refine ⟨F1, ds, C, dx, p, vs, fun b o hb => hup b o (l1.fr.sub b o hb), by rw [List.append_nil], upd_same, hFp, hm, atOs_ex a1 ho, by rw [a1.len.1, hn], ?_⟩
    simp only [R.bind_ok] at h
    cases q2 : den ds with
    | ok d =>
      rw [q2] at h
      intro H' F' b1 b2 b3 b4 rd
      have sH : Same H1 H' := fun b o hb => b3 b o (hup b o hb) (ne_of_none hb hp)
      have fz : ∀ b o, F' b = some o → F1 b = some o ∨ H1 b = none := fun b o hb => by
        rcases b4 b o hb with z | z | z
        · exact .inl z
        · exact .inr (hdn b z)
        · subst z; exact .inr hp
      exact ⟨rfl, h _ H' ⟨F', rt1, [], s1.trans b1, l1.call b1 b2 sH fz, ⟨rd, rfl⟩, .nil, fun p hp => by cases hp⟩⟩
    | exc c fs =>
      rw [q2] at h
      intro C a H' F' ws hC b1 b2 b3 b4 hx rx
      have sH : Same H1 H' := fun b o hb => b3 b o (hup b o hb) (ne_of_none hb hp)
      have fz : ∀ b o, F' b = some o → F1 b = some o ∨ H1 b = none := fun b o hb => by
        rcases b4 b o hb with z | z
        · exact .inl z
        · exact .inr (hdn b z)
      exact h C a σ H' F' ws hC rfl (s1.trans b1) (l1.fr.call b2 sH b1 fz) hx rx
    | stk => rw [q2] at h; exact h
def hasN (m : Str) (ns : List Str) : Bool := ns.any fun n => m == n
theorem hasN_h {m : Str} : ∀ {fs : List (Str × V)}, hasN m (fs.map (·.1)) = false → fs.lookup m = none
  | [], _ => rfl
  | (n, v) :: fs, h => by
    simp only [hasN, List.map_cons, List.any_cons, Bool.or_eq_false_iff] at h
    rw [List.lookup_cons, h.1]
    exact hasN_h h.2
def mMeth (c m : Str) (den : List D → FR) (mo : M D) (ms : M (List D)) : M D := fun e => (mo e).bind fun d e1 => match d with
  | .ins c' ns xs => if (c' == c) = true then (if hasN m ns = true then .stk else (ms e1).bind fun ds e2 => match den (.ins c' ns xs :: ds) with
    | .ok d => .ok d e2
    | .exc c fs => .exc c fs
    | .stk => .stk) else .stk
  | _ => .stk
theorem meth_of {C : Addr} {c m : Str} {den : List D → FR} {mo : M D} (hC : W.mg c = some (.ref C)) (ho : allEx os = true) (hn : os.length + 1 = n) (Q : VK) (h : tE W io E mk (mMeth c m den mo ms) kr σ H Q) :
    tMethSD C m (spP W n kr den) [] (fun σ c d H => E c d σ H) (tE W io E mk mo .fr) (tAs W io E mk ms os) σ H Q := by
  obtain ⟨g, F, e, rt, l, h⟩ := h
  refine ⟨g, F, e, rt, l, ?_⟩
  unfold mMeth at h
  cases q : mo e with
  | exc c fs => rw [q] at h; exact h
  | stk => rw [q] at h; exact h
  | ok d e1 =>
    rw [q] at h
    intro v H1 r
    obtain ⟨F1, rt1, rs, s1, l1, k, nn, o⟩ := r.ex
    simp only [R.bind_ok] at h
    cases d with
    | ins c' ns xs =>
      dsimp only at h
      cases qc : c' == c with
      | false => rw [qc] at h; exact h.elim
      | true =>
        rw [qc, if_pos rfl] at h
        have ec : c' = c := eq_of_beq qc
        subst ec
        cases qn : hasN m ns with
        | true => rw [qn, if_pos rfl] at h; exact h.elim
        | false =>
          rw [qn, if_neg Bool.false_ne_true] at h
          have k0 := k.1
          have k1 := k.1
          simp only [Rep] at k1
          obtain ⟨p, C', dx, fs, ev, eF, eC, en, rx⟩ := k1
          rw [hC] at eC
          cases eC
          subst en
          refine ⟨p, dx, fs, ev, l1.fr.sub _ _ eF, hasN_h qn, g, F1, e1, rt1, l1, ?_⟩
          cases q1 : ms e1 with
          | exc c fs => rw [q1] at h; exact Exq.mono s1 h
          | stk => rw [q1] at h; exact h
          | ok ds e2 =>
            rw [q1] at h
            intro vs F2 rt2 H2 s2 l2 a2
            refine ⟨F2, D.ins c' (fs.map (·.1)) xs :: ds, l2.fr.sub, by rw [List.append_nil]; exact .cons (Rep.mono s2 k0) (atOs_ex a2 ho), by rw [List.length_cons, a2.len.1, hn], ?_⟩
            simp only [R.bind_ok] at h
            cases q2 : den (D.ins c' (fs.map (·.1)) xs :: ds) with
            | ok d =>
              rw [q2] at h
              intro v H' F' rs b1 b2 b3 b4 k nd o
              refine h v H' ⟨F', rt2, rs, s1.trans (s2.trans b1), l2.call b1 b2 b3 b4, k, nd, fun p hp => ⟨fun i m => ?_, l2.fr.old (o p hp), fun m => ?_⟩⟩
              · obtain ⟨_, u, z⟩ := l2.none m
                rw [o p hp] at z; cases z
              · obtain ⟨u, z⟩ := l2.fr.wr p m
                rw [o p hp] at z; cases z
            | exc c fs =>
              rw [q2] at h
              intro C a H' F' ws hC b1 b2 b3 b4 hx rx
              exact h C a σ H' F' ws hC rfl (s1.trans (s2.trans b1)) (l2.fr.call b2 b3 b1 b4) hx rx
            | stk => rw [q2] at h; exact h
    | _ => exact h.elim
theorem ev_meth {c m : Str} {o : Expr} {apos : Pos} {mo : M D} {den : List D → FR} (cal : CalM X.prog X.w X.K X.mg X.base k c m n kr den) (hr : Room j X.A) (tk : Takes X E) (hob : EV X io E mk o mo .fr) (ha : AV X io E mk (e0 :: es) ms os) (hk : k ≤ j := by decide) (ho : allEx os = true := by rfl) (hn : os.length + 1 = n := by rfl) {pl : Sem Bool}
    (ht : eval (.Call (.Attribute o m apos) (e0 :: es) [] pos) X.env = (do
      let ov ← eval o X.env
      standAt apos.atName
      let (f, first) ← holding [ov] (getMethod ov m pl)
      callWith pos f first (backTo pos (starEach (e0 :: es) X.env)) (backToKw pos (keywordEach [] X.env))) := by rfl)
    (he : starEach (e0 :: es) X.env = (false, eval e0 X.env) :: starEach es X.env := by rfl) (hpl : (backTo pos (starEach es X.env)).any (·.1) = false := by rfl) : EV X io E mk (.Call (.Attribute o m apos) (e0 :: es) [] pos) (mMeth c m den mo ms) kr := by
  obtain ⟨C, f, fd, ps, cl, me, F, hC, b⟩ := cal.ex
  exact (pe_methSD (E := fun σ c d H => E c d σ H) hob cl me F (hr.mono hk) b .nil (passAt' tk) ha ht he hpl).imp fun σ H Q h => meth_of (W := kx X) hC ho hn Q h
theorem ev_fldT {a : Expr} {c f : Str} {pos : Pos} {m : M D} (T : FldT X.K X.mg c f) (ha : EV X io E mk a m .fr) (hb : attributeBase a f X.env (eval a X.env) = eval a X.env := by rfl) : EV X io E mk (.Attribute a f pos) (mFld c f m) .fr := by
  obtain ⟨C, hC, cl, na⟩ := T.ex
  exact ev_fld ha hC cl na hb
end
end L3

/-! # L3T: list comprehensions of two clauses -/
namespace L3
open PySem PySem.Spec L2
open PyProof.Rows hiding St
def lc2D (vs : List Nat) (gf : L3.D → Env3 → Option Env3) (src1 : M (List L3.D)) (vs1 : List Nat) (gf1 : L3.D → Env3 → Option Env3) (t : M Bool) (el : M L3.D) : List L3.D → M (List L3.D)
  | [], e => .ok [] e
  | d :: r, e => match gf d (wipeE vs e) with
    | none => .stk
    | some e1 => (src1 e1).nox.bind fun ds1 e2 => (lcD vs1 gf1 t el ds1 e2).bind fun ys e3 => (lc2D vs gf src1 vs1 gf1 t el r e3).bind fun zs e4 => .ok (ys ++ zs) e4
@[irreducible] noncomputable def mLc2 (vs : List Nat) (src : M (List L3.D)) (gf : L3.D → Env3 → Option Env3) (src1 : M (List L3.D)) (vs1 : List Nat) (gf1 : L3.D → Env3 → Option Env3) (t : M Bool) (el : M L3.D) : M L3.D := fun e => (src e).bind fun ds e1 =>
  (lc2D vs gf src1 vs1 gf1 t el ds (wipeE vs e1)).bind fun ys e2 => if ys.length ≤ sizeLine then (if e2.length = e1.length then .ok (.lst ys) (restE vs e1 e2) else .stk) else .stk
section
variable {X : Cx} {io : List Nat} {E : WX} {mk : List Kd} {kr : Kd} {W : Kx} {g : Gh} {F F' H H' : Hp} {rt : Nat → List Addr} {σ : L2.St} {D : Ends} {n : Nat} {vs vs1 : List Nat}
theorem lc2D_noexc {gf gf1 : L3.D → Env3 → Option Env3} {src1 : M (List L3.D)} {t : M Bool} {el : M L3.D} : ∀ {ds : List L3.D} {e : Env3} {c : Str} {fs : List (Str × L3.D)}, lc2D vs gf src1 vs1 gf1 t el ds e ≠ .exc c fs
  | [], e, c, fs, h => by cases h
  | d :: r, e, c, fs, h => by
    unfold lc2D at h
    cases q : gf d (wipeE vs e) with
    | none => rw [q] at h; cases h
    | some e1 =>
      rw [q] at h
      dsimp only at h
      cases q2 : src1 e1 with
      | exc c2 fs2 => rw [q2] at h; cases h
      | stk => rw [q2] at h; cases h
      | ok ds1 e2 =>
        rw [q2] at h
        simp only [R.nox_ok, R.bind_ok] at h
        cases q3 : lcD vs1 gf1 t el ds1 e2 with
        | exc c2 fs2 => exact lcD_noexc q3
        | stk => rw [q3] at h; cases h
        | ok ys e3 =>
          rw [q3] at h
          simp only [R.bind_ok] at h
          cases q4 : lc2D vs gf src1 vs1 gf1 t el r e3 with
          | exc c2 fs2 => exact lc2D_noexc q4
          | stk => rw [q4] at h; cases h
          | ok zs e4 => rw [q4] at h; cases h
theorem wipeE_sub (h : ∀ i, i ∈ vs1 → i ∈ vs) (e : Env3) : wipeE vs (wipeE vs1 e) = wipeE vs e := by
  refine List.ext_getElem? fun j => ?_
  rw [wipeE_get, wipeE_get, wipeE_length, wipeE_get]
  by_cases hj : j ∈ vs
  · rw [if_pos hj, if_pos hj]
  · rw [if_neg hj, if_neg hj, if_neg fun m => hj (h j m)]
theorem wipe_sub (h : ∀ i, i ∈ vs1 → i ∈ vs) (σ : L2.St) : wipe (wipe σ vs1) vs = wipe σ vs := by
  refine List.ext_getElem? fun j => ?_
  rw [wipe_get, wipe_get, wipe_length, wipe_get]
  by_cases hj : j ∈ vs
  · rw [if_pos hj, if_pos hj]
  · rw [if_neg hj, if_neg hj, if_neg fun m => hj (h j m)]
theorem frOk_sub (h : ∀ i, i ∈ vs1 → i ∈ vs) (hv : frOk mk io vs = true) : frOk mk io vs1 = true :=
  List.all_eq_true.mpr fun i hi => List.all_eq_true.mp hv i (h i hi)
theorem lc2_of {ts ts1 : List Nat} {src src1 : M (List L3.D)} {gf gf1 : L3.D → Env3 → Option Env3} {t : M Bool} {el : M L3.D} {tg tg1 : TG} {tt1 : TT} (tk : TkOk W io mk ts tg gf) (tk1 : TkOk W io mk ts1 tg1 gf1) (hts : ∀ i, i ∈ ts → i ∈ vs) (hts1 : ∀ i, i ∈ ts1 → i ∈ vs1) (hv1 : ∀ i, i ∈ vs1 → i ∈ vs) (hv : frOk mk io vs = true)
    (htt : ∀ σ H Q, tT W io (fun _ _ _ _ => False) mk t σ H Q → tt1 σ H Q) (Q : VK) (h : tE W io E mk (mLc2 vs src gf src1 vs1 gf1 t el) (.own .fr) σ H Q) :
    tLc2 (tI W io E mk src none) tg tYes (tI W io (fun _ _ _ _ => False) mk src1 none) tg1 tt1 (tE W io (fun _ _ _ _ => False) mk el .fr) vs vs1 σ H Q := by
  obtain ⟨g, F, e, rt, l, h⟩ := h
  refine ⟨g, F, e, rt, l, ?_⟩
  unfold mLc2 at h
  cases q : src e with
  | exc c fs => rw [q] at h; exact h
  | stk => rw [q] at h; exact h
  | ok ds e1 =>
    rw [q] at h
    intro J F1 rt1 H1 hs1 l1 it Dp hDp
    simp only [R.bind_ok] at h
    have hF1 : F1 Dp = none := fresh_F l1.fr.sub hDp
    have hg0 : g.H0 Dp = none := l1.fr.old hDp
    have hgw : Dp ∉ g.Wr := fun m => by obtain ⟨o, z⟩ := l1.fr.wr Dp m; rw [hDp] at z; cases z
    have nr1 : ∀ i, Dp ∉ rt1 i := fun i m => by obtain ⟨_, o, b⟩ := l1.none m; rw [hDp] at b; cases b
    have hvv := frOk_sub hv1 hv
    cases qo : lc2D vs gf src1 vs1 gf1 t el ds (wipeE vs e1) with
    | exc c fs => exact absurd qo lc2D_noexc
    | stk => rw [qo] at h; exact h.elim
    | ok ys eN =>
    rw [qo] at h
    simp only [R.bind_ok] at h
    by_cases hz : ys.length ≤ sizeLine
    case neg => rw [if_neg hz] at h; exact h.elim
    rw [if_pos hz] at h
    by_cases hlen : eN.length = e1.length
    case neg => rw [if_neg hlen] at h; exact h.elim
    rw [if_pos hlen] at h
    refine ⟨fun i m H => ∃ F2 e2 rt2 acc vacc zs, Same F1 F2 ∧ Rl W io g F2 mk (wipeE vs e2) rt2 (wipe σ vs) H ∧ H Dp = some (.lst vacc) ∧ F2 Dp = none ∧ (∀ i, Dp ∉ rt2 i) ∧ RepL W F2 acc vacc ∧ i + m = ds.length ∧
        lc2D vs gf src1 vs1 gf1 t el (ds.drop i) e2 = .ok zs eN ∧ ys = acc ++ zs,
      ⟨ds.length, F1, wipeE vs e1, rt1, [], [], ys, Same.refl _, ?_, upd_same, hF1, nr1, .nil, by omega, qo, rfl⟩, ?_⟩
    · rw [wipeE_sub (fun _ h => h)]
      exact (l1.wipe hv).grow (Same.refl _) (l1.fr.fresh hDp) fun i p hp => ⟨upd_ne fun z => nr1 i (z ▸ hp), (l1.none hp).1⟩
    · rintro i m H ⟨F2, e2, rt2, acc, vacc, zs, hs2, l2, hD, hFD, hrD, ra, him, hf, hys⟩
      by_cases hi : i < ds.length
      · have hd : ds[i]? = some ds[i] := List.getElem?_eq_getElem hi
        have hdr : ds.drop i = ds[i] :: ds.drop (i + 1) := List.drop_eq_getElem_cons hi
        rw [hdr] at hf
        unfold lc2D at hf
        cases qg : gf ds[i] (wipeE vs e2) with
        | none => rw [qg] at hf; cases hf
        | some e3 =>
          rw [qg] at hf
          dsimp only at hf
          obtain ⟨go, yl⟩ := it.go i _ F2 _ rt2 (wipe σ vs) H hd hs2 l2 trivial
          refine .inr ⟨go, fun H' => ∃ F2 e2 rt2 acc vacc zs, Same F1 F2 ∧ Rl W io g F2 mk (wipeE vs e2) rt2 (wipe σ vs) H' ∧ H' Dp = some (.lst vacc) ∧ F2 Dp = none ∧ (∀ i, Dp ∉ rt2 i) ∧ RepL W F2 acc vacc ∧
              lc2D vs gf src1 vs1 gf1 t el (ds.drop (i + 1)) e2 = .ok zs eN ∧ ys = acc ++ zs, ?_, fun x H' y => ?_⟩
          · rintro H' ⟨F2, e2, rt2, acc, vacc, zs, a1, a2, a4, a5, a6, a7, a9, a10⟩
            exact ⟨m - 1, by omega, F2, e2, rt2, acc, vacc, zs, a1, a2, a4, a5, a6, a7, by omega, a9, a10⟩
          · refine tk _ F2 _ rt2 (wipe σ vs) H _ x H' _ l2.ghost (yl x H' y) ?_
            rw [qg]
            intro σ3 F3 rt3 H3 hl3 hj3 hs3 l3g
            obtain ⟨b1, b2, b3⟩ := Rl.bystand hD hFD hrD l3g
            have l3 := l2.unghost l3g
            have eσ : wipe σ3 vs = wipe σ vs := by
              refine List.ext_getElem? fun j => ?_
              rw [wipe_get, wipe_get, hl3, wipe_length]
              by_cases hj : j ∈ vs
              · rw [if_pos hj, if_pos hj]
              · rw [if_neg hj, if_neg hj, hj3 j fun m => hj (hts j m), wipe_get, if_neg hj]
            refine ⟨eσ, ?_⟩
            simp only [tYes, if_true]
            refine ⟨_, F3, e3, rt3, l3.ghost, ?_⟩
            cases q1 : src1 e3 with
            | exc c fs => rw [q1] at hf; cases hf
            | stk => rw [q1] at hf; cases hf
            | ok ds1 e4 =>
              rw [q1] at hf
              simp only [R.nox_ok, R.bind_ok] at hf
              intro J1 F4 rt4 H4 hs4 l4 it1
              obtain ⟨c1, c2, c3⟩ := Rl.bystand b1 b2 b3 l4
              have l4' := l3.unghost l4
              cases qi : lcD vs1 gf1 t el ds1 e4 with
              | exc c fs => exact absurd qi lcD_noexc
              | stk => rw [qi] at hf; cases hf
              | ok ys1 e5 =>
                rw [qi] at hf
                simp only [R.bind_ok] at hf
                cases qr : lc2D vs gf src1 vs1 gf1 t el (ds.drop (i + 1)) e5 with
                | exc c fs => exact absurd qr lc2D_noexc
                | stk => rw [qr] at hf; cases hf
                | ok zs' e6 =>
                  rw [qr] at hf
                  simp only [R.bind_ok, R.ok.injEq] at hf
                  obtain ⟨hf1, hf2⟩ := hf
                  subst hf2
                  have wcong : ∀ {e5 : Env3} (r : List L3.D), r ≠ [] → lcD vs1 gf1 t el r (wipeE vs1 e5) = lcD vs1 gf1 t el r e5 := fun {e5} r hr => by
                    cases r with
                    | nil => exact absurd rfl hr
                    | cons d r =>
                      unfold lcD
                      rw [wipeE_sub (fun _ h => h)]
                  refine ⟨fun j k H => ∃ F5 e5' rt5 acc1 vacc1 zs1, Same F4 F5 ∧ Rl W io g F5 mk (wipeE vs1 e5') rt5 (wipe σ3 vs1) H ∧ H Dp = some (.lst vacc1) ∧ F5 Dp = none ∧ (∀ i, Dp ∉ rt5 i) ∧ RepL W F5 acc1 vacc1 ∧ j + k = ds1.length ∧
                      lcD vs1 gf1 t el (ds1.drop j) e5' = .ok zs1 e5 ∧ acc ++ ys1 = acc1 ++ zs1,
                    ⟨ds1.length, F4, e4, rt4, acc, vacc, ys1, Same.refl _, l4'.wipe hvv, c1, c2, c3, ra.mono (hs3.trans hs4), by omega, qi, rfl⟩, ?_⟩
                  rintro j k H5 ⟨F5, e5', rt5, acc1, vacc1, zs1, hs5, l5, hD5, hFD5, hrD5, ra5, hjk, hf5, hys5⟩
                  by_cases hj : j < ds1.length
                  · have hd1 : ds1[j]? = some ds1[j] := List.getElem?_eq_getElem hj
                    have hdr1 : ds1.drop j = ds1[j] :: ds1.drop (j + 1) := List.drop_eq_getElem_cons hj
                    rw [hdr1] at hf5
                    unfold lcD at hf5
                    cases qg1 : gf1 ds1[j] (wipeE vs1 e5') with
                    | none => rw [qg1] at hf5; cases hf5
                    | some e6 =>
                      rw [qg1] at hf5
                      dsimp only at hf5
                      obtain ⟨go1, yl1⟩ := it1.go j _ F5 _ rt5 (wipe σ3 vs1) H5 hd1 hs5 l5 trivial
                      refine .inr ⟨go1, fun H' => ∃ F5 e5' rt5 acc1 vacc1 zs1, Same F4 F5 ∧ Rl W io g F5 mk (wipeE vs1 e5') rt5 (wipe σ3 vs1) H' ∧ H' Dp = some (.lst vacc1) ∧ F5 Dp = none ∧ (∀ i, Dp ∉ rt5 i) ∧ RepL W F5 acc1 vacc1 ∧
                          lcD vs1 gf1 t el (ds1.drop (j + 1)) e5' = .ok zs1 e5 ∧ acc ++ ys1 = acc1 ++ zs1, ?_, fun x H' y => ?_⟩
                      · rintro H' ⟨F5, e5', rt5, acc1, vacc1, zs1, a1, a2, a4, a5, a6, a7, a9, a10⟩
                        exact ⟨k - 1, by omega, F5, e5', rt5, acc1, vacc1, zs1, a1, a2, a4, a5, a6, a7, by omega, a9, a10⟩
                      · refine tk1 _ F5 _ rt5 (wipe σ3 vs1) H5 _ x H' _ l5.ghost (yl1 x H' y) ?_
                        rw [qg1]
                        intro σ6 F6 rt6 H6 hl6 hj6 hs6 l6
                        obtain ⟨d1, d2, d3⟩ := Rl.bystand hD5 hFD5 hrD5 l6
                        have eσ1 : wipe σ6 vs1 = wipe σ3 vs1 := by
                          refine List.ext_getElem? fun j => ?_
                          rw [wipe_get, wipe_get, hl6, wipe_length]
                          by_cases hj : j ∈ vs1
                          · rw [if_pos hj, if_pos hj]
                          · rw [if_neg hj, if_neg hj, hj6 j fun m => hj (hts1 j m), wipe_get, if_neg hj]
                        refine ⟨eσ1, htt _ _ _ ⟨_, F6, e6, rt6, l6, ?_⟩⟩
                        cases qt : t e6 with
                        | exc c fs => rw [qt] at hf5; cases hf5
                        | stk => rw [qt] at hf5; cases hf5
                        | ok b e7 =>
                          rw [qt] at hf5
                          simp only [R.nox_ok, R.bind_ok] at hf5
                          intro F7 rt7 H7 hs7 l7
                          obtain ⟨f1, f2, f3⟩ := Rl.bystand hD5 hFD5 hrD5 l7
                          cases b with
                          | false =>
                            simp only [Bool.false_eq_true, if_false] at hf5 ⊢
                            have l8 := (l5.unghost l7).wipe hvv
                            rw [eσ1] at l8
                            exact ⟨F7, e7, rt7, acc1, vacc1, zs1, hs5.trans (hs6.trans hs7), l8, f1, f2, f3, ra5.mono (hs6.trans hs7), hf5, hys5⟩
                          | true =>
                            simp only [if_true] at hf5 ⊢
                            refine ⟨_, F7, e7, rt7, l7, ?_⟩
                            cases qe : el e7 with
                            | exc c fs => rw [qe] at hf5; cases hf5
                            | stk => rw [qe] at hf5; cases hf5
                            | ok y e8 =>
                              rw [qe] at hf5
                              simp only [R.nox_ok, R.bind_ok] at hf5
                              intro v H8 r8
                              obtain ⟨F8, rt8, rs8, hs8, l8, k8, n8, o8⟩ := r8.ex
                              obtain ⟨p1, p2, p3⟩ := Rl.bystand hD5 hFD5 hrD5 l8
                              cases q6 : lcD vs1 gf1 t el (ds1.drop (j + 1)) e8 with
                              | exc c fs => rw [q6] at hf5; cases hf5
                              | stk => rw [q6] at hf5; cases hf5
                              | ok ws e9 =>
                                rw [q6] at hf5
                                simp only [R.bind_ok, R.ok.injEq] at hf5
                                obtain ⟨hf6, hf7⟩ := hf5
                                have lr := ra5.length
                                have la : vacc1.length < sizeLine := by
                                  have z1 := congrArg List.length hys5
                                  have z2 := congrArg List.length hys
                                  rw [← hf1] at z2
                                  rw [← hf6] at z1
                                  simp only [List.length_append, List.length_cons] at z1 z2
                                  omega
                                refine ⟨vacc1, p1, la, F8, e8, rt8, acc1 ++ [y], vacc1 ++ [v], ws, hs5.trans (hs6.trans (hs7.trans hs8)), ?_, upd_same, p2, p3, (ra5.mono (hs6.trans (hs7.trans hs8))).append (.cons k8.1 .nil), by rw [hf7] at q6; exact q6, by rw [hys5, ← hf6]; simp⟩
                                have l9 := (l5.unghost l8).wipe hvv
                                rw [eσ1] at l9
                                exact l9.other hg0 hgw p2 p3
                  · have e0 : j = ds1.length := by omega
                    subst e0
                    rw [List.drop_length] at hf5
                    simp only [lcD, R.ok.injEq] at hf5
                    obtain ⟨hf6, hf7⟩ := hf5
                    subst hf7
                    refine .inl ⟨it1.stop F5 _ rt5 (wipe σ3 vs1) H5 hs5 l5 trivial, ?_⟩
                    have l6 := l5.wipe hv
                    rw [wipeE_sub hv1, wipe_sub hv1, eσ] at l6
                    rw [← hf6, List.append_nil] at hys5
                    exact ⟨F5, e5', rt5, acc1, vacc1, zs', hs2.trans (hs3.trans (hs4.trans hs5)), l6, hD5, hFD5, hrD5, ra5, qr, by rw [hys, ← hf1, ← hys5, List.append_assoc]⟩
      · have e0 : i = ds.length := by omega
        subst e0
        rw [List.drop_length] at hf
        simp only [lc2D, R.ok.injEq] at hf
        obtain ⟨hf1, hf2⟩ := hf
        subst hf2
        refine .inl ⟨it.stop F2 _ rt2 (wipe σ vs) H hs2 l2 trivial, h _ _ ?_⟩
        have er : restE vs e1 e2 = restE vs e1 (wipeE vs e2) := by
          refine List.ext_getElem? fun j => ?_
          rw [restE_get, restE_get, wipeE_length, wipeE_get]
          by_cases hj : j ∈ vs
          · rw [if_pos hj, if_pos hj]
          · rw [if_neg hj, if_neg hj, if_neg hj]
        rw [er]
        have l7 := l1.rest hs2 l2 hv (fun j hj => by rw [wipe_get, if_neg hj]) (wipe_length _ _) (by rw [wipeE_length]; exact hlen)
        rw [← hf1, List.append_nil] at hys
        subst hys
        refine ⟨F2, rt2, [Dp], hs1.trans hs2, l7, ?_, by simp, fun p hp => ?_⟩
        · simp only [RepK]
          exact ⟨Dp, vacc, [], rfl, hD, hFD, (repKs_fr (W := W) (H := H)).mpr ⟨ra, rfl⟩, rfl⟩
        · rw [List.mem_singleton.mp hp]
          exact ⟨hrD, hg0, hgw⟩
end
section
variable {X : Cx} {io : List Nat} {E : WX} {mk : List Kd} {kr : Kd} {elt tg iter tg1 iter1 c : Expr} {scope : Scope} {pos py spos : Pos} {src src1 : M (List L3.D)} {gf gf1 : L3.D → Env3 → Option Env3} {t : M Bool} {el : M L3.D} {ts ts1 : List Nat} {y : Str}
theorem ev_lc2 (own : List (Str × Nat)) (vs1 : List Nat) (hc : X.calm = true) (hi : IV X io E mk tg iter src none) (ok : BlkOk X.N X.env.scope scope own) (hg : inBlk X scope fun Y => GV Y io mk tg ts gf) (hi1 : inBlk X scope fun Y => IV Y io E00 mk tg1 iter1 src1 none) (hg1 : inBlk X scope fun Y => GV Y io mk tg1 ts1 gf1) (he : inBlk X scope fun Y => EV Y io E00 mk elt el .fr)
    (h1 : subL ts (own.map (·.2)) = true := by rfl) (h2 : frOk mk io (own.map (·.2)) = true := by rfl) (h3 : subL ts1 vs1 = true := by rfl) (h4 : subL vs1 (own.map (·.2)) = true := by rfl) (hN : X.N.Nodup := by assumption) (hs : ∀ x, foldedSetIterable iter X.env x = pure x := by intro _; rfl) (hs1 : ∀ env x, foldedSetIterable iter1 env x = pure x := by intro _ _; rfl) :
    EV X io E mk (.ListComp elt [⟨tg, iter, [], 0⟩, ⟨tg1, iter1, [], 0⟩] scope pos) (mLc2 (own.map (·.2)) src gf src1 vs1 gf1 mYes el) (.own .fr) :=
  (pe_lc2 (own := own) (vs1 := vs1) (te := tE (kx X) io E00 mk el .fr) (g := tG (kx X) io mk ts gf) (tt := tYes) (wi1 := tI (kx X) io E00 mk src1 none) (g1 := tG (kx X) io mk ts1 gf1) (tt1 := tYes) hc hN hi ok (subL.h h4) hg (fun _ _ _ _ _ => pts_nil) hi1 hg1 (fun _ _ _ _ _ => pts_nil) he hs hs1).imp fun σ H Q h =>
    lc2_of (fun gh F e rt σ H d x H' Q l y h => tk_any gh F e rt σ H d x H' Q l y h) (fun gh F e rt σ H d x H' Q l y h => tk_any gh F e rt σ H d x H' Q l y h) (subL.h h1) (subL.h h3) (subL.h h4) h2 (fun σ H Q h => tYes_of h) Q h
theorem ev_lc2I (own : List (Str × Nat)) (vs1 : List Nat) (hc : X.calm = true) (hi : IV X io E mk tg iter src none) (ok : BlkOk X.N X.env.scope scope own) (hg : inBlk X scope fun Y => GV Y io mk tg ts gf) (hi1 : inBlk X scope fun Y => IV Y io E00 mk tg1 iter1 src1 none) (hg1 : inBlk X scope fun Y => GV Y io mk tg1 ts1 gf1) (ht : inBlk X scope fun Y => TV Y io E00 mk c t) (he : inBlk X scope fun Y => EV Y io E00 mk elt el .fr)
    (h1 : subL ts (own.map (·.2)) = true := by rfl) (h2 : frOk mk io (own.map (·.2)) = true := by rfl) (h3 : subL ts1 vs1 = true := by rfl) (h4 : subL vs1 (own.map (·.2)) = true := by rfl) (hN : X.N.Nodup := by assumption) (hs : ∀ x, foldedSetIterable iter X.env x = pure x := by intro _; rfl) (hs1 : ∀ env x, foldedSetIterable iter1 env x = pure x := by intro _ _; rfl) :
    EV X io E mk (.ListComp elt [⟨tg, iter, [], 0⟩, ⟨tg1, iter1, [c], 0⟩] scope pos) (mLc2 (own.map (·.2)) src gf src1 vs1 gf1 t el) (.own .fr) :=
  (pe_lc2 (own := own) (vs1 := vs1) (te := tE (kx X) io E00 mk el .fr) (g := tG (kx X) io mk ts gf) (tt := tYes) (wi1 := tI (kx X) io E00 mk src1 none) (g1 := tG (kx X) io mk ts1 gf1) (tt1 := tT (kx X) io E00 mk t) hc hN hi ok (subL.h h4) hg (fun _ _ _ _ _ => pts_nil) hi1 hg1 (fun s H C cl fp => pts_one (ht s H C cl fp)) he hs hs1).imp fun σ H Q h =>
    lc2_of (fun gh F e rt σ H d x H' Q l y h => tk_any gh F e rt σ H d x H' Q l y h) (fun gh F e rt σ H d x H' Q l y h => tk_any gh F e rt σ H d x H' Q l y h) (subL.h h1) (subL.h h3) (subL.h h4) h2 (fun σ H Q h => h) Q h
theorem sv_lc2 (i : Nat) (own : List (Str × Nat)) (vs1 : List Nat) (hc : X.calm = true) (hi : IV X io E mk tg iter src none) (ok : BlkOk X.N X.env.scope scope own) (hg : inBlk X scope fun Y => GV Y io mk tg ts gf) (hi1 : inBlk X scope fun Y => IV Y io E00 mk tg1 iter1 src1 none) (hg1 : inBlk X scope fun Y => GV Y io mk tg1 ts1 gf1) (he : inBlk X scope fun Y => EV Y io E00 mk elt el .fr)
    (hq : mk.getD i .fr = .own .fr ∨ mk.getD i .fr = .fr := by first | exact .inl rfl | exact .inr rfl) (hio : i ∉ io := by decide) (hyN : X.N[i]? = some y := by rfl) (hyl : X.env.scope.names.lookup y = some .local := by rfl)
    (h1 : subL ts (own.map (·.2)) = true := by rfl) (h2 : frOk mk io (own.map (·.2)) = true := by rfl) (h3 : subL ts1 vs1 = true := by rfl) (h4 : subL vs1 (own.map (·.2)) = true := by rfl) (hN : X.N.Nodup := by assumption) (hs : ∀ x, foldedSetIterable iter X.env x = pure x := by intro _; rfl) (hs1 : ∀ env x, foldedSetIterable iter1 env x = pure x := by intro _ _; rfl)
    (hk : X.env.scope.kind = .function := by rfl) (hln : (py.line == pos.line) = true := by rfl) (hnm : (scope.names.any fun (n, k) => n == y && (k == .local || k == .cell)) = false := by decide +kernel) :
    SV X io E mk kr (.Assign [.Name y py] (.ListComp elt [⟨tg, iter, [], 0⟩, ⟨tg1, iter1, [], 0⟩] scope pos) spos) (sSet i (mLc2 (own.map (·.2)) src gf src1 vs1 gf1 mYes el)) :=
  (ps_setLc2 (own := own) (vs1 := vs1) (te := tE (kx X) io E00 mk el .fr) (g := tG (kx X) io mk ts gf) (tt := tYes) (wi1 := tI (kx X) io E00 mk src1 none) (g1 := tG (kx X) io mk ts1 gf1) (tt1 := tYes) hc hN hyN hyl (sw_true hk hyl hln hnm) hi ok (subL.h h4) hg (fun _ _ _ _ _ => pts_nil) hi1 hg1 (fun _ _ _ _ _ => pts_nil) he hs hs1).imp fun Dd σ H h =>
    lcS_of hio hq (fun Q h => lc2_of (fun gh F e rt σ H d x H' Q l y h => tk_any gh F e rt σ H d x H' Q l y h) (fun gh F e rt σ H d x H' Q l y h => tk_any gh F e rt σ H d x H' Q l y h) (subL.h h1) (subL.h h3) (subL.h h4) h2 (fun σ H Q h => tYes_of h) Q h) h
theorem sv_lc2I (i : Nat) (own : List (Str × Nat)) (vs1 : List Nat) (hc : X.calm = true) (hi : IV X io E mk tg iter src none) (ok : BlkOk X.N X.env.scope scope own) (hg : inBlk X scope fun Y => GV Y io mk tg ts gf) (hi1 : inBlk X scope fun Y => IV Y io E00 mk tg1 iter1 src1 none) (hg1 : inBlk X scope fun Y => GV Y io mk tg1 ts1 gf1) (ht : inBlk X scope fun Y => TV Y io E00 mk c t) (he : inBlk X scope fun Y => EV Y io E00 mk elt el .fr)
    (hq : mk.getD i .fr = .own .fr ∨ mk.getD i .fr = .fr := by first | exact .inl rfl | exact .inr rfl) (hio : i ∉ io := by decide) (hyN : X.N[i]? = some y := by rfl) (hyl : X.env.scope.names.lookup y = some .local := by rfl)
    (h1 : subL ts (own.map (·.2)) = true := by rfl) (h2 : frOk mk io (own.map (·.2)) = true := by rfl) (h3 : subL ts1 vs1 = true := by rfl) (h4 : subL vs1 (own.map (·.2)) = true := by rfl) (hN : X.N.Nodup := by assumption) (hs : ∀ x, foldedSetIterable iter X.env x = pure x := by intro _; rfl) (hs1 : ∀ env x, foldedSetIterable iter1 env x = pure x := by intro _ _; rfl)
    (hk : X.env.scope.kind = .function := by rfl) (hln : (py.line == pos.line) = true := by rfl) (hnm : (scope.names.any fun (n, k) => n == y && (k == .local || k == .cell)) = false := by decide +kernel) :
    SV X io E mk kr (.Assign [.Name y py] (.ListComp elt [⟨tg, iter, [], 0⟩, ⟨tg1, iter1, [c], 0⟩] scope pos) spos) (sSet i (mLc2 (own.map (·.2)) src gf src1 vs1 gf1 t el)) :=
  (ps_setLc2 (own := own) (vs1 := vs1) (te := tE (kx X) io E00 mk el .fr) (g := tG (kx X) io mk ts gf) (tt := tYes) (wi1 := tI (kx X) io E00 mk src1 none) (g1 := tG (kx X) io mk ts1 gf1) (tt1 := tT (kx X) io E00 mk t) hc hN hyN hyl (sw_true hk hyl hln hnm) hi ok (subL.h h4) hg (fun _ _ _ _ _ => pts_nil) hi1 hg1 (fun s H C cl fp => pts_one (ht s H C cl fp)) he hs hs1).imp fun Dd σ H h =>
    lcS_of hio hq (fun Q h => lc2_of (fun gh F e rt σ H d x H' Q l y h => tk_any gh F e rt σ H d x H' Q l y h) (fun gh F e rt σ H d x H' Q l y h => tk_any gh F e rt σ H d x H' Q l y h) (subL.h h1) (subL.h h3) (subL.h h4) h2 (fun σ H Q h => h) Q h) h
end
/-! ### what is left to show -/
section
variable {K : L3.D → Env3 → Prop} {KL : List L3.D → Env3 → Prop} {X : KX} {e : Env3} {vs vs1 : List Nat} {src src1 : M (List L3.D)} {gf gf1 : L3.D → Env3 → Option Env3} {t : M Bool} {el : M L3.D}
theorem Ok_Lc2 : Ok (mLc2 vs src gf src1 vs1 gf1 t el e) K X = Ok (src e) (fun ds e1 => Ok (lc2D vs gf src1 vs1 gf1 t el ds (wipeE vs e1)) (fun ys e2 => ys.length ≤ sizeLine ∧ e2.length = e1.length ∧ K (.lst ys) (restE vs e1 e2)) X) X := by
  unfold mLc2
  rw [Ok_bind]; refine Ok_ext fun ds e1 => ?_
  rw [Ok_bind]; refine Ok_ext fun ys e2 => ?_
  by_cases h : ys.length ≤ sizeLine
  · rw [if_pos h]
    by_cases h2 : e2.length = e1.length
    · rw [if_pos h2, Ok_ok]; simp [h, h2]
    · rw [if_neg h2]; simp [h2, Ok]
  · rw [if_neg h]; simp [h, Ok]
theorem Ok_lc2_nil : Ok (lc2D vs gf src1 vs1 gf1 t el [] e) KL X = KL [] e := rfl
theorem Ok_lc2_cons {d : L3.D} {r : List L3.D} (h : Op (gf d (wipeE vs e)) fun e1 => Ok (src1 e1) (fun ds1 e2 => Ok (lcD vs1 gf1 t el ds1 e2) (fun ys e3 => Ok (lc2D vs gf src1 vs1 gf1 t el r e3) (fun zs e4 => KL (ys ++ zs) e4) (fun _ _ => False)) (fun _ _ => False)) (fun _ _ => False)) :
    Ok (lc2D vs gf src1 vs1 gf1 t el (d :: r) e) KL X := by
  show Ok (match gf d (wipeE vs e) with
    | none => R.stk
    | some e1 => (src1 e1).nox.bind fun ds1 e2 => (lcD vs1 gf1 t el ds1 e2).bind fun ys e3 => (lc2D vs gf src1 vs1 gf1 t el r e3).bind fun zs e4 => R.ok (ys ++ zs) e4) KL X
  cases q : gf d (wipeE vs e) with
  | none => rw [q] at h; exact h.elim
  | some e1 =>
    rw [q] at h
    simp only [Op_some] at h ⊢
    cases q2 : src1 e1 with
    | exc c fs => rw [q2] at h; exact h.elim
    | stk => rw [q2] at h; exact h.elim
    | ok ds1 e2 =>
      rw [q2, Ok_ok] at h
      rw [R.nox_ok, R.bind_ok]
      cases q3 : lcD vs1 gf1 t el ds1 e2 with
      | exc c fs => rw [q3] at h; exact h.elim
      | stk => rw [q3] at h; exact h.elim
      | ok ys e3 =>
        rw [q3, Ok_ok] at h
        rw [R.bind_ok]
        cases q4 : lc2D vs gf src1 vs1 gf1 t el r e3 with
        | exc c fs => rw [q4] at h; exact h.elim
        | stk => rw [q4] at h; exact h.elim
        | ok zs e4 => rw [q4, Ok_ok] at h; exact h
/-- an inner clause that changes nothing -/
theorem Ok_lcI_pure {K : List L3.D → Env3 → Prop} (p : L3.D → Bool) (f : L3.D → L3.D) {ds : List L3.D} {e1 : Env3}
    (he : ∀ d ∈ ds, Op (gf d (wipeE vs e1)) fun e2 => Ok (t e2) (fun b e3 => b = p d ∧ if b = true then Ok (el e3) (fun y e4 => y = f d ∧ wipeE vs e4 = wipeE vs e1) (fun _ _ => False) else wipeE vs e3 = wipeE vs e1) (fun _ _ => False))
    (h : ∀ e2, wipeE vs e2 = wipeE vs e1 → K ((ds.filter p).map f) e2) : Ok (lcD vs gf t el ds e1) K X := by
  have main : ∀ (l : List L3.D) (e : Env3) (KL : List L3.D → Env3 → Prop), (∀ d ∈ l, d ∈ ds) → wipeE vs e = wipeE vs e1 → (∀ e2, wipeE vs e2 = wipeE vs e1 → KL ((l.filter p).map f) e2) → Ok (lcD vs gf t el l e) KL X := by
    intro l
    induction l with
    | nil => intro e KL _ hw hk; rw [Ok_lc_nil]; exact hk e hw
    | cons d r ih =>
      intro e KL hm hw hk
      rw [Ok_lc_cons, hw]
      have hd := he d (hm d (.head _))
      cases q : gf d (wipeE vs e1) with
      | none => rw [q, Op_none] at hd; exact hd.elim
      | some e2 =>
        rw [q] at hd
        simp only [Op_some] at hd ⊢
        refine Ok.imp hd (fun b e3 hb => ?_) fun _ _ z => z
        obtain ⟨hp, hb⟩ := hb
        cases b with
        | false =>
          simp only [Bool.false_eq_true, if_false] at hb ⊢
          refine ih e3 KL (fun x hx => hm x (.tail _ hx)) hb fun e4 h4 => ?_
          have := hk e4 h4
          rwa [List.filter_cons_of_neg (by rw [← hp]; simp)] at this
        | true =>
          simp only [if_true] at hb ⊢
          refine Ok.imp hb (fun y e4 hy => ?_) fun _ _ z => z
          obtain ⟨rfl, hy⟩ := hy
          refine ih e4 _ (fun x hx => hm x (.tail _ hx)) hy fun e5 h5 => ?_
          have := hk e5 h5
          rwa [List.filter_cons_of_pos (by rw [← hp]), List.map_cons] at this
  exact main ds e1 _ (fun _ h => h) rfl h
theorem Ok_Lc2_pure (fs : L3.D → List L3.D) (p : L3.D → L3.D → Bool) (f : L3.D → L3.D → L3.D) (hsub : subL vs1 vs = true)
    (h : Ok (src e) (fun ds e1 => (∀ d ∈ ds, Op (gf d (wipeE vs e1)) fun e2 => Ok (src1 e2) (fun ds1 e3 => (∀ d1 ∈ ds1, Op (gf1 d1 (wipeE vs1 e3)) fun e4 => Ok (t e4) (fun b e5 => b = p d d1 ∧ if b = true then Ok (el e5) (fun y e6 => y = f d d1 ∧ wipeE vs1 e6 = wipeE vs1 e3) (fun _ _ => False) else wipeE vs1 e5 = wipeE vs1 e3) (fun _ _ => False)) ∧
        (ds1.filter (p d)).map (f d) = fs d ∧ wipeE vs e3 = wipeE vs e1) (fun _ _ => False)) ∧ (ds.flatMap fs).length ≤ sizeLine ∧ K (.lst (ds.flatMap fs)) e1) X) : Ok (mLc2 vs src gf src1 vs1 gf1 t el e) K X := by
  rw [Ok_Lc2]
  refine Ok.imp h (fun ds e1 ⟨h1, h2, h3⟩ => ?_) fun _ _ z => z
  have main : ∀ (l : List L3.D) (e : Env3) (X : KX) (KL : List L3.D → Env3 → Prop), (∀ d ∈ l, d ∈ ds) → wipeE vs e = wipeE vs e1 → (∀ e2, wipeE vs e2 = wipeE vs e1 → KL (l.flatMap fs) e2) → Ok (lc2D vs gf src1 vs1 gf1 t el l e) KL X := by
    intro l
    induction l with
    | nil => intro e X KL _ hw hk; rw [Ok_lc2_nil]; exact hk e hw
    | cons d r ih =>
      intro e X KL hm hw hk
      refine Ok_lc2_cons ?_
      rw [hw]
      have hd := h1 d (hm d (.head _))
      cases q : gf d (wipeE vs e1) with
      | none => rw [q, Op_none] at hd; exact hd.elim
      | some e2 =>
        rw [q] at hd
        simp only [Op_some] at hd ⊢
        refine Ok.imp hd (fun ds1 e3 hb => ?_) fun _ _ z => z
        obtain ⟨h5, h6, h7⟩ := hb
        refine Ok_lcI_pure (p d) (f d) h5 fun e4 h8 => ?_
        rw [h6]
        refine ih e4 _ _ (fun x hx => hm x (.tail _ hx)) ?_ fun e5 h9 => ?_
        · rw [← wipeE_sub (subL.h hsub), h8, wipeE_sub (subL.h hsub), h7]
        · have := hk e5 h9
          rwa [List.flatMap_cons] at this
  refine main ds _ _ _ (fun _ h => h) (wipeE_sub (fun _ h => h) _) fun e2 hw => ?_
  refine ⟨h2, by rw [← wipeE_length vs e2, hw, wipeE_length], ?_⟩
  rw [restE_wipe hw]
  exact h3
end
end L3

/-! # L3U: frozen dicts; min over texts; tuples in order -/
namespace L3
open PySem PySem.Spec L2
open PyProof.Rows hiding St
/-- a thing is locked for good -/
def tLockOut (t : TE) : TE := fun σ H Q => t σ H fun v H1 => ∃ d u, v = .ref d ∧ H1 d = some u ∧ Mut (some u) ∧ ∀ od, Q v (upd H1 d (.frz od u))
theorem pe_lockOut {X : Cx} {e : Expr} {t : TE} (h : PE X e t) : PE X e (tLockOut t) := by
  refine ⟨fun pins s σ H Q I hw => ?_⟩
  refine thn (h.run pins s σ _ _ I hw) fun u s1 ⟨x, H1, I1, r, d, w, ex, hd, mu, q⟩ => ?_
  obtain ⟨od, I2⟩ := I1.lock hd mu
  exact ⟨x, _, I2, r, q od⟩
theorem upd_upd {H : Hp} {p : Addr} {a b : HO} : upd (upd H p a) p b = upd H p b := by
  funext q
  by_cases h : q = p
  · subst h; rw [upd_same, upd_same]
  · rw [upd_ne h, upd_ne h, upd_ne h]
/-- two simple keys -/
def keyEq : D → D → Bool
  | .int i, .int j => i == j
  | .str a, .str b => a == b
  | _, _ => false
def simpleK : D → Bool
  | .int _ => true
  | .str _ => true
  | _ => false
def keyOf : D → Key
  | .int i => .inl i
  | .str s => .inr (S s)
  | _ => .inl 0
theorem kD_keyOf {d : D} (h : simpleK d = true) : kD (keyOf d) = d := by
  cases d <;> simp only [simpleK, Bool.false_eq_true] at h
  · rfl
  · simp [keyOf, kD, S]
theorem keyOf_kD : ∀ k : Key, keyOf (kD k) = k
  | .inl i => rfl
  | .inr s => rfl
theorem simple_kD : ∀ k : Key, simpleK (kD k) = true
  | .inl i => rfl
  | .inr s => rfl
theorem keyEq_kD (a b : Key) : keyEq (kD a) (kD b) = decide (a = b) := by
  rcases a with i | s <;> rcases b with j | t
  · simp only [kD, keyEq, Sum.inl.injEq]; rw [Bool.eq_iff_iff]; simp
  · rfl
  · rfl
  · simp only [kD, keyEq, Sum.inr.injEq]
    have e0 : (s.cps.toList == t.cps.toList) = decide (s.cps.toList = t.cps.toList) := by rw [Bool.eq_iff_iff]; simp
    rw [e0]
    have : (s.cps.toList = t.cps.toList) ↔ s = t := by
      constructor
      · intro h
        obtain ⟨a⟩ := s; obtain ⟨b⟩ := t
        congr 1
        exact Array.toList_inj.mp h
      · intro h; rw [h]
    by_cases h : s = t
    · rw [decide_eq_true h, decide_eq_true (this.mpr h)]
    · rw [decide_eq_false h, decide_eq_false (mt this.mp h)]
theorem rep_kV {W : Kx} {F : Hp} : ∀ k : Key, Rep W F (kD k) (kV k)
  | .inl i => Rep.int
  | .inr s => by
    have : Rep W F (.str s.cps.toList) (.str (S s.cps.toList)) := Rep.str
    exact this
theorem rep_simple {W : Kx} {F : Hp} {d : D} {v : V} (h : simpleK d = true) (r : Rep W F d v) : v = kV (keyOf d) := by
  cases d <;> simp only [simpleK, Bool.false_eq_true] at h
  · exact Rep.of_int r
  · exact Rep.of_str r
def dGetD (k : D) : List D → List D → Option D
  | j :: ks, x :: xs => if keyEq j k = true then some x else dGetD k ks xs
  | _, _ => none
theorem dGetD_h {W : Kx} {F : Hp} {k : Key} : ∀ {kvs : List (Key × V)} {xs : List D}, RepL W F xs (kvs.map (·.2)) → match dGetD (kD k) (kvs.map fun z => kD z.1) xs with
    | some d => ∃ v, valV kvs k = some v ∧ Rep W F d v
    | none => valV kvs k = none
  | [], xs, _ => by simp [dGetD, valV_nil]
  | (j, v) :: kvs, [], r => by simp [RepL] at r
  | (j, v) :: kvs, x :: xs, r => by
    rw [List.map_cons, repL_cons] at r
    simp only [List.map_cons, dGetD, keyEq_kD]
    by_cases h : j = k
    · rw [decide_eq_true h, if_pos rfl]
      exact ⟨v, valV_pos h, r.1⟩
    · rw [decide_eq_false h, if_neg Bool.false_ne_true, valV_neg h]
      exact dGetD_h r.2
def dDGet : D → D → Option D
  | .dic ks xs, k => if simpleK k = true then dGetD k ks xs else none
  | _, _ => none
/-- the keys of a dict whose keys are no tuples -/
def simpleKs : List D → Bool
  | .tup _ :: _ => false
  | _ => true
theorem rep_dicK {W : Kx} {F : Hp} {ks xs : List D} {v : V} (h : simpleKs ks = true) (r : Rep W F (.dic ks xs) v) : ∃ a o kvs, v = .ref a ∧ F a = some (.frz o (.dK kvs)) ∧ ks = kvs.map (fun p => kD p.1) ∧ RepL W F xs (kvs.map (·.2)) := by
  simp only [Rep] at r
  rcases r with r | ⟨a, o, kvs, rfl, q, ne, hk, _⟩
  · exact r
  · subst hk
    cases kvs with
    | nil => exact absurd rfl ne
    | cons p r => simp [simpleKs] at h
section
variable {X : Cx} {io : List Nat} {E : WX} {mk : List Kd} {kr : Kd} {W : Kx} {g : Gh} {F F' H H' : Hp} {rt : Nat → List Addr} {σ : L2.St} {pos : Pos}
/-- a new frozen dict -/
theorem Rl.newDic {e : Env3} {p : Addr} {kvs : List (Key × V)} {xs : List D} {od : Obj} {Q : VK} (l : Rl W io g F mk e rt σ H) (hp : H p = Option.none) (r : RepL W F xs (kvs.map (·.2))) (h : ∀ v H', ResK W io g F mk .fr (.dic (kvs.map fun z => kD z.1) xs) e σ v H' → Q v H') : Q (.ref p) (upd H p (.frz od (.dK kvs))) := by
  have hF := fresh_F l.fr.sub hp
  refine l.pureK h (.ref p) (upd F p (.frz od (.dK kvs))) _ (sameUpd hF) (sameUpd2 l.fr.sub) (sameUpd hp) (fun b hb => by rw [upd_ne (fun e => hb (by rw [e]; exact hp))]) ?_
  simp only [Rep]
  exact .inl ⟨p, od, kvs, rfl, upd_same, rfl, r.mono (sameUpd hF)⟩
theorem ev_dict0 : EV X io E mk (.Dict [] [] pos) (mC (.dic [] [])) .fr := (pe_lockOut pe_dnewK).imp fun σ H Q h => by
  obtain ⟨g, F, e, rt, l, h⟩ := h
  intro p hp
  refine ⟨p, .dK [], rfl, upd_same, trivial, fun od => ?_⟩
  rw [upd_upd]
  exact l.newDic (kvs := []) (xs := []) hp .nil h
/-- the pairs of a display -/
def mPNil : M (List (D × D)) := fun e => .ok [] e
def mPCons (mk mv : M D) (r : M (List (D × D))) : M (List (D × D)) := fun e => (mk e).bind fun k e1 => (mv e1).bind fun v e2 => (r e2).bind fun ps e3 => .ok ((k, v) :: ps) e3
def tDs (W : Kx) (io : List Nat) (E : WX) (mk : List Kd) (m : M (List (D × D))) : L2.St → Hp → (List (V × V) → Hp → Prop) → Prop := fun σ H Q =>
  ∃ g F e rt, Rl W io g F mk e rt σ H ∧ match m e with
    | .ok ps e' => ∀ vs F' rt' H', Same F F' → Rl W io g F' mk e' rt' σ H' → RepL W F' (ps.map (·.1)) (vs.map (·.1)) → RepL W F' (ps.map (·.2)) (vs.map (·.2)) → Q vs H'
    | .exc c fs => Exq W g F E c fs σ
    | .stk => False
structure DV (X : Cx) (io : List Nat) (E : WX) (mk : List Kd) (pos : Pos) (keys : List (Option Expr)) (values : List Expr) (m : M (List (D × D))) : Prop where
  ex : ∃ trs, PPs X pos keys values trs ∧ ∀ σ H Q, tDs (kx X) io E mk m σ H Q → tPairs trs σ H Q
theorem dv_nil : DV X io E mk pos [] [] mPNil := ⟨[], pps_nil, fun σ H Q h => by
  obtain ⟨g, F, e, rt, l, h⟩ := h
  exact h [] F rt H (Same.refl _) l .nil .nil⟩
theorem dv_cons {k v : Expr} {ks : List (Option Expr)} {vs : List Expr} {m1 m2 : M D} {m : M (List (D × D))} (hk : EV X io E mk k m1 .fr) (hv : EV X io E mk v m2 .fr) (hr : DV X io E mk pos ks vs m) : DV X io E mk pos (some k :: ks) (v :: vs) (mPCons m1 m2 m) := by
  obtain ⟨trs, hp, ht⟩ := hr.ex
  refine ⟨_, pps_cons hk hv hp, fun σ H Q h => ?_⟩
  obtain ⟨g, F, e, rt, l, h⟩ := h
  refine ⟨g, F, e, rt, l, ?_⟩
  unfold mPCons at h
  cases q1 : m1 e with
  | exc c fs => rw [q1] at h; exact h
  | stk => rw [q1] at h; exact h
  | ok d1 e1 =>
    rw [q1] at h
    intro v1 H1 r1
    obtain ⟨F1, rt1, _, s1, l1, k1, _, _⟩ := r1.ex
    simp only [R.bind_ok] at h
    refine ⟨g, F1, e1, rt1, l1, ?_⟩
    cases q2 : m2 e1 with
    | exc c fs => rw [q2] at h; exact Exq.mono s1 h
    | stk => rw [q2] at h; exact h
    | ok d2 e2 =>
      rw [q2] at h
      intro v2 H2 r2
      obtain ⟨F2, rt2, _, s2, l2, k2, _, _⟩ := r2.ex
      simp only [R.bind_ok] at h
      refine ht _ _ _ ⟨g, F2, e2, rt2, l2, ?_⟩
      cases q3 : m e2 with
      | exc c fs => rw [q3] at h; exact Exq.mono (s1.trans s2) h
      | stk => rw [q3] at h; exact h
      | ok ps e3 =>
        rw [q3] at h
        intro vs F3 rt3 H3 s3 l3 a3 b3
        exact h ((v1, v2) :: vs) F3 rt3 H3 (s1.trans (s2.trans s3)) l3 (.cons (k1.1.mono (s2.trans s3)) a3) (.cons (k2.1.mono s3) b3)
def okKeys : List D → Bool
  | [] => true
  | k :: r => simpleK k && r.all (fun j => !keyEq k j) && okKeys r
theorem mergeK_nodup : ∀ (more kvs : List (Key × V)), (∀ p ∈ more, ∀ q ∈ kvs, q.1 ≠ p.1) → more.Pairwise (fun p q => p.1 ≠ q.1) → mergeK kvs more = kvs ++ more
  | [], kvs, _, _ => by simp [mergeK]
  | p :: r, kvs, h1, h2 => by
    have e : putK kvs p.1 p.2 = kvs ++ [p] := by
      refine putK_new p.2 ?_
      cases q : valV kvs p.1 with
      | none => rfl
      | some v =>
        obtain ⟨z, hz, hz2⟩ := List.mem_map.mp (valV_in q)
        exact absurd hz2 (h1 p (.head _) z hz)
    show mergeK (putK kvs p.1 p.2) r = _
    rw [e, mergeK_nodup r _ (fun q hq z hz => ?_) (List.pairwise_cons.mp h2).2, List.append_assoc, List.singleton_append]
    rcases List.mem_append.mp hz with hz | hz
    · exact h1 q (.tail _ hq) z hz
    · rw [List.mem_singleton.mp hz]; exact (List.pairwise_cons.mp h2).1 q hq
theorem okKeys_h : ∀ {ps : List (D × D)} {vs : List (V × V)}, okKeys (ps.map (·.1)) = true → RepL W F (ps.map (·.1)) (vs.map (·.1)) → RepL W F (ps.map (·.2)) (vs.map (·.2)) →
    ∃ kvs : List (Key × V), vs = kvs.map (fun kv => (kV kv.1, kv.2)) ∧ kvs.length = ps.length ∧ ps.map (·.1) = kvs.map (fun z => kD z.1) ∧ RepL W F (ps.map (·.2)) (kvs.map (·.2)) ∧ kvs.Pairwise (fun p q => p.1 ≠ q.1)
  | [], vs, _, r1, r2 => by
    rw [List.map_nil, repL_nil, List.map_eq_nil_iff] at r1
    subst r1
    exact ⟨[], rfl, rfl, rfl, .nil, .nil⟩
  | p :: ps, [], _, r1, _ => by simp [RepL] at r1
  | p :: ps, v :: vs, h, r1, r2 => by
    rw [List.map_cons, List.map_cons, repL_cons] at r1 r2
    simp only [List.map_cons, okKeys, Bool.and_eq_true, List.all_eq_true, Bool.not_eq_true'] at h
    obtain ⟨⟨h1, h2⟩, h3⟩ := h
    obtain ⟨kvs, e1, e0, e2, e3, e4⟩ := okKeys_h h3 r1.2 r2.2
    have hv := rep_simple h1 r1.1
    refine ⟨(keyOf p.1, v.2) :: kvs, ?_, by simp [e0], ?_, .cons r2.1 e3, List.pairwise_cons.mpr ⟨fun q hq => ?_, e4⟩⟩
    · rw [List.map_cons, e1]; congr 1; exact Prod.ext hv rfl
    · rw [List.map_cons, List.map_cons, e2, kD_keyOf h1]
    · have hm : kD q.1 ∈ ps.map (·.1) := by rw [e2]; exact List.mem_map.mpr ⟨q, hq, rfl⟩
      have := h2 _ hm
      intro hz
      rw [← kD_keyOf h1, keyEq_kD] at this
      exact absurd (decide_eq_true hz) (by rw [this]; exact Bool.false_ne_true)
def mDisp (m : M (List (D × D))) : M D := fun e => (m e).bind fun ps e1 => if okKeys (ps.map (·.1)) = true then .ok (.dic (ps.map (·.1)) (ps.map (·.2))) e1 else .stk
theorem ev_disp {keys : List (Option Expr)} {values : List Expr} {m : M (List (D × D))} (n : Nat) (h : DV X io E mk pos keys values m) (hn : ∀ e ps e', m e = .ok ps e' → ps.length = n) (h15 : n ≤ 15 := by decide) (hall : keys.all (·.isSome) = true := by rfl) (hl : keys.length = values.length := by rfl) (h0 : keys ≠ [] := by exact fun z => nomatch z)
    (hk15 : keys.length ≤ 15 := by decide) : EV X io E mk (.Dict keys values pos) (mDisp m) .fr := by
  obtain ⟨trs, hp, ht⟩ := h.ex
  refine (pe_lockOut (pe_disp hp hall hl h0 hk15)).imp fun σ H Q h => ?_
  obtain ⟨g, F, e, rt, l, h⟩ := h
  intro p hp
  have hF := fresh_F l.fr.sub hp
  have nr : ∀ i, p ∉ rt i := fun i m => by obtain ⟨_, o, b⟩ := l.none m; rw [hp] at b; cases b
  have hg0 : g.H0 p = none := l.fr.old hp
  have hgw : p ∉ g.Wr := fun m => by obtain ⟨o, z⟩ := l.fr.wr p m; rw [hp] at z; cases z
  have l0 : Rl (kx X) io g F mk e rt σ (upd H p (.dK [])) := l.grow (Same.refl _) (l.fr.fresh hp) fun i q hq => ⟨upd_ne fun z => nr i (z ▸ hq), (l.none hq).1⟩
  refine ht _ _ _ ⟨_, F, e, rt, l0.ghost, ?_⟩
  unfold mDisp at h
  cases q : m e with
  | exc c fs =>
    rw [q] at h
    intro C a σ' H' F' vs h1 h2 h3 h4 h5 h6
    exact h C a σ' H' F' vs h1 h2 h3 (h4.unghost l0) h5 h6
  | stk => rw [q] at h; exact h
  | ok ps e1 =>
    rw [q] at h
    intro vs F1 rt1 H1 s1 l1g a1 b1
    obtain ⟨z1, z2, z3⟩ := Rl.bystand upd_same hF nr l1g
    have l1 := l0.unghost l1g
    simp only [R.bind_ok] at h
    by_cases hok : okKeys (ps.map (·.1)) = true
    case neg => rw [if_neg hok] at h; exact h.elim
    rw [if_pos hok] at h
    obtain ⟨kvs, e1', e0, e2, e3, e4⟩ := okKeys_h hok a1 b1
    have hm : mergeK [] kvs = kvs := by rw [mergeK_nodup kvs [] (fun _ _ _ h => by cases h) e4, List.nil_append]
    refine ⟨z1, kvs, e1', by rw [e0, hn _ _ _ q]; exact h15, p, .dK (mergeK [] kvs), rfl, upd_same, trivial, fun od => ?_⟩
    rw [upd_upd, hm]
    have l2 : Rl (kx X) io g F1 mk e1 rt1 σ (upd H1 p (.frz od (.dK kvs))) := l1.other hg0 hgw z2 z3
    have hn1 : ∀ q ∈ [p], F1 q = none := fun q hq => by rw [List.mem_singleton.mp hq]; exact z2
    have fz : Same F1 (L3.frz F1 (upd H1 p (.frz od (.dK kvs))) [p]) := frz_of hn1
    refine h _ _ (.fr1 (s1.trans fz) (l2.grow fz (l2.fr.freeze hn1 fun q hq => by rw [List.mem_singleton.mp hq]; exact .inl hg0) fun i q hq => ⟨rfl, ?_⟩) ?_)
    · rw [frz_out fun m => z3 i (by rw [← List.mem_singleton.mp m]; exact hq)]
      exact (l2.none hq).1
    · simp only [Rep]
      refine .inl ⟨p, od, kvs, rfl, by rw [frz_in (.head _)]; exact upd_same, e2, e3.mono fz⟩
theorem mpn_nil {e : Env3} {ps : List (D × D)} {e' : Env3} (h : mPNil e = .ok ps e') : ps.length = 0 := by cases h; rfl
theorem mpn_cons {n : Nat} {m1 m2 : M D} {m : M (List (D × D))} (hm : ∀ e ps e', m e = .ok ps e' → ps.length = n) : ∀ e ps e', mPCons m1 m2 m e = .ok ps e' → ps.length = n + 1 := fun e ps e' h => by
  unfold mPCons at h
  cases q1 : m1 e with
  | exc c fs => rw [q1] at h; cases h
  | stk => rw [q1] at h; cases h
  | ok d1 e1 =>
    rw [q1] at h; simp only [R.bind_ok] at h
    cases q2 : m2 e1 with
    | exc c fs => rw [q2] at h; cases h
    | stk => rw [q2] at h; cases h
    | ok d2 e2 =>
      rw [q2] at h; simp only [R.bind_ok] at h
      cases q3 : m e2 with
      | exc c fs => rw [q3] at h; cases h
      | stk => rw [q3] at h; cases h
      | ok r e3 =>
        rw [q3] at h; simp only [R.bind_ok, R.ok.injEq] at h
        rw [← h.1, List.length_cons, hm _ _ _ q3]
/-- d[k] of a frozen dict -/
theorem ev_dget {o i : Expr} {mo mi : M D} (hu : X.A.units + 1 < cLine) (ho : EV X io E mk o mo .fr) (hi : EV X io E mk i mi .fr) (hs : NoSl i := by exact fun _ _ => rfl) : EV X io E mk (.Subscript o i pos) (m2 .ex .ex dDGet mo mi) .fr :=
  (pe_dget hu ho hi hs).imp fun σ H Q h => by
  obtain ⟨g, F, e, rt, l, h⟩ := h
  refine ⟨g, F, e, rt, l, ?_⟩
  unfold m2 at h
  cases q1 : mo e with
  | exc c fs => rw [q1] at h; exact h
  | stk => rw [q1] at h; exact h
  | ok d1 e1 =>
    rw [q1] at h
    intro v1 H1 r1
    obtain ⟨F1, rt1, _, s1, l1, k1, _, _⟩ := r1.ex
    simp only [R.bind_ok] at h
    refine ⟨g, F1, e1, rt1, l1, ?_⟩
    cases q2 : mi e1 with
    | exc c fs => rw [q2] at h; exact Exq.mono s1 h
    | stk => rw [q2] at h; exact h
    | ok d2 e2 =>
      rw [q2] at h
      intro v2 H2 r2
      obtain ⟨F2, rt2, _, s2, l2, k2, _, _⟩ := r2.ex
      simp only [R.bind_ok, opd] at h
      cases d1 with
      | dic ks xs =>
        unfold dDGet at h
        dsimp only at h
        by_cases hk : simpleK d2 = true
        case neg => rw [if_neg hk] at h; exact h.elim
        rw [if_pos hk] at h
        have rk := k1.1
        simp only [Rep] at rk
        rcases rk with ⟨a, o, kvs, rfl, qa, hks, rx⟩ | ⟨a, o, kvs, rfl, qa, ne, hks, rx⟩
        · have := dGetD_h (k := keyOf d2) rx
          rw [kD_keyOf hk, ← hks] at this
          cases qg : dGetD d2 ks xs with
          | none => rw [qg] at h; exact h.elim
          | some x =>
            rw [qg] at h this
            obtain ⟨v, hv, rv⟩ := this
            refine ⟨a, v, rfl, .inl ⟨kvs, keyOf d2, .inr ⟨o, l2.fr.sub _ _ (s2 _ _ qa)⟩, rep_simple hk k2.1, hv.symm⟩, ?_⟩
            exact h v H2 (.fr1 (s1.trans s2) l2 (rv.mono s2))
        · have : dGetD d2 ks xs = none := by
            subst hks
            have : ∀ (kvs : List (List Key × V)) (xs : List D), dGetD d2 (kvs.map fun p => D.tup (p.1.map kD)) xs = none := by
              intro kvs
              induction kvs with
              | nil => intro xs; cases xs <;> rfl
              | cons p r ih =>
                intro xs
                cases xs with
                | nil => rfl
                | cons x xs => simp only [List.map_cons, dGetD, keyEq, Bool.false_eq_true, if_false]; exact ih xs
            exact this kvs xs
          rw [this] at h
          exact h.elim
      | _ => exact h.elim
/-- the keys of a frozen dict, walked -/
def mItK (m : M D) : M (List D) := fun e => (m e).bind fun d e1 => match d with
  | .dic ks _ => if simpleKs ks = true then .ok ks e1 else .stk
  | _ => .stk
theorem iv_dk {tg x : Expr} {m : M D} (h : EV X io E mk x m .fr) : IV X io E mk tg x (mItK m) none := (pi_keys h).imp fun σ H K0 h => by
  obtain ⟨g, F, e, rt, l, h⟩ := h
  refine ⟨g, F, e, rt, l, ?_⟩
  unfold mItK at h
  cases q : m e with
  | exc c fs => rw [q] at h; exact h
  | stk => rw [q] at h; exact h
  | ok d e1 =>
    rw [q] at h
    intro v H1 r
    obtain ⟨F1, rt1, rs, h1, l1, k, n, o⟩ := r.ex
    simp only [R.bind_ok] at h
    cases d with
    | dic ks xs =>
      dsimp only at h
      by_cases hk : simpleKs ks = true
      case neg => rw [if_neg hk] at h; exact h.elim
      rw [if_pos hk] at h
      obtain ⟨a, o, kvs, rfl, qa, hks, rx⟩ := rep_dicK hk k.1
      subst hks
      refine ⟨a, o, rfl, .inl ⟨kvs, l1.fr.sub _ _ qa, h _ F1 rt1 H1 h1 l1 ⟨fun n d F2 e2 rt2 σ2 H2 hd hs l2 _ => ?_, fun F2 e2 rt2 σ2 H2 hs l2 _ => ?_⟩⟩⟩
      · rw [List.getElem?_map] at hd
        obtain ⟨p, hp, rfl⟩ := Option.map_eq_some_iff.mp hd
        refine ⟨⟨l2.fr.sub _ _ (hs _ _ qa), (List.getElem?_eq_some_iff.mp hp).1⟩, fun x H' y => .inl ?_⟩
        obtain ⟨rfl, k', v', e3, rfl⟩ := y
        rw [hp] at e3
        cases e3
        exact ⟨rfl, rep_kV k'⟩
      · exact ⟨l2.fr.sub _ _ (hs _ _ qa), by simp⟩
    | _ => exact h.elim
/-- list(d) -/
def dKeysL : D → Option (List D)
  | .dic ks _ => if simpleKs ks = true then some ks else none
  | _ => none
theorem new_listD : NewFn (kx X) (fun xs H Q => ∃ (a : Addr) (kvs : List (Key × V)), xs = [.ref a] ∧ Rd H a (.dK kvs) ∧ ∀ p, H p = none → Q (.ref p) (upd H p (.lst (kvs.map fun kv => kV kv.1)))) (f1N dKeysL) := new1 fun F H d zs v Q hs r hf hq => by
  cases d <;> simp only [dKeysL, reduceCtorEq] at hf
  split at hf
  · rename_i hk
    cases hf
    rcases r with r | ⟨_, _, _, e, _⟩
    · obtain ⟨a, o, kvs, rfl, qa, hks, rx⟩ := rep_dicK hk r
      subst hks
      refine ⟨a, kvs, rfl, .inr ⟨o, hs _ _ qa⟩, fun p hp => hq p _ hp ?_⟩
      have go : ∀ kvs : List (Key × V), RepL (kx X) F (kvs.map fun p => kD p.1) (kvs.map fun kv => kV kv.1) := by
        intro kvs
        induction kvs with
        | nil => exact .nil
        | cons p r ih => exact .cons (rep_kV _) ih
      exact go kvs
    · cases e
  · cases hf
/-! ### min over texts -/
def minS : List (List Nat) → Option (List Nat)
  | [] => none
  | x :: r => some (r.foldl (fun a b => if b < a then b else a) x)
def dMinG : D → Option D := fun d => match d with
  | .lst (.str s :: xs) => (strsOf (.str s :: xs)).bind fun bs => (minS bs).map .str
  | d => dMin d
def rMinS (K : PySem.W.Frag) : List V → Hp → VK → Prop := fun vs H Q => ∃ (a : Addr) (x : Str) (xs : List Str), vs = [V.ref a] ∧ SqL K H a ((x :: xs).map V.str) ∧ Q (.str (PySem.W.minOf x xs)) H
theorem cr_minS (hc : X.calm = true) (hu : X.A.units + 64 < cLine) : CallR X (.builtin "min") (rMinS X.K) := by
  intro pins s σ H vs us Q I r h
  obtain ⟨a, x, xs, rfl, hs, q⟩ := h
  obtain ⟨its, rv, hl, _⟩ := I.list hs
  rw [Vals.ref1 r]
  refine PySem.W.min_list_datum (α := Str) (x := x) (xs := xs) (I.ok.hd hc) hl.isList (by simpa using PySem.W.HoldAll.of_strs rv.strs) (by
    have : PySem.W.Datum.depth Str = 0 := rfl
    rw [this]; omega) fun i v h' tk hi hv hk => ?_
  have hm : ∃ t, v = .str (PySem.W.minOf x xs) t := by
    have h1 : PySem.W.HoldAll h' [v] [PySem.W.minOf x xs] := PySem.W.HoldAll.cons hv PySem.W.HoldAll.nil
    have h2 := PySem.W.HoldAll.toStrs h1
    cases h2 with
    | cons x t _ => exact ⟨t, rfl⟩
  obtain ⟨t, rfl⟩ := hm
  exact ⟨.str _, H, I.kept hk, ⟨_, rfl⟩, q⟩
theorem minOf_S : ∀ (r : List (List Nat)) (x : List Nat), PySem.W.minOf (S x) (r.map S) = S (r.foldl (fun a b => if b < a then b else a) x)
  | [], x => rfl
  | y :: r, x => by
    have e : PySem.W.DatumOrd.lt (S y) (S x) = decide (y < x) := by
      show decide ((S y).cps.toList < (S x).cps.toList) = _
      rw [S_cps, S_cps]
    have : PySem.W.minOf (S x) ((y :: r).map S) = PySem.W.minOf (S (if y < x then y else x)) (r.map S) := by
      unfold PySem.W.minOf
      rw [List.map_cons, List.foldl_cons, e]
      by_cases h : y < x <;> simp [h]
    rw [this, minOf_S r, List.foldl_cons]
theorem strsOf_h2 {ds : List D} {vs : List V} {ss : List (List Nat)} (h : strsOf ds = some ss) (r : RepL W F ds vs) : vs = (ss.map S).map V.str := by
  have := strsOf_h h r
  rw [this, List.map_map]; rfl
def rMinG (K : PySem.W.Frag) : List V → Hp → VK → Prop := fun vs H Q => rMin K vs H Q ∨ rMinS K vs H Q
theorem cr_minG (hc : X.calm = true) (hu : X.A.units + 64 < cLine) : CallR X (.builtin "min") (rMinG X.K) := by
  intro pins s σ H vs us Q I r h
  rcases h with h | h
  · exact cr_min hc pins s σ H vs us Q I r h
  · exact cr_minS hc hu pins s σ H vs us Q I r h
theorem pure_minG : PureFn (kx X) (rMinG X.K) (f1 dMinG) := by
  intro F H ds z vs Q hs rs hf hq
  have old : f1 dMin ds = some z → rMinG X.K vs H Q := fun h => .inl (pure_min F H ds z vs Q hs rs h hq)
  unfold f1 at hf
  split at hf
  · rename_i d
    obtain ⟨v, rfl, r⟩ := repTs1 rs
    unfold dMinG at hf
    split at hf
    · rename_i s xs
      simp only [Option.bind_eq_some_iff, Option.map_eq_some_iff] at hf
      obtain ⟨bs, hb, m, hm, rfl⟩ := hf
      obtain ⟨a, ws, e, q, l⟩ := r.lst hs
      have := strsOf_h2 hb l
      subst this
      cases bs with
      | nil => simp [minS] at hm
      | cons x bs =>
        simp only [minS, Option.some.injEq] at hm
        refine .inr ⟨a, S x, bs.map S, by rw [e], SqL.of (by simpa using q), ?_⟩
        rw [minOf_S, hm]
        exact hq.here hs Rep.str
    · exact old (by unfold f1; exact hf)
  · cases hf
/-! ### tuples in order -/
def dLtT (xs ys : List D) : Option D := if (shp (.tup xs) 64 = true ∧ shp (.tup ys) 64 = true) ∧ PySem.W.alike (toPy (.tup xs)) (toPy (.tup ys)) = true then some (.bl (PySem.W.dataLt (toPy (.tup xs)) (toPy (.tup ys)))) else none
def dLtG : D → D → Option D
  | .tup xs, .tup ys => dLtT xs ys
  | x, y => dLt x y
def rLtD (K : PySem.W.Frag) : R2 := fun x y H Q => ∃ a b, Dp K H x a ∧ Dp K H y b ∧ PySem.W.alike a b = true ∧ a ≠ .none ∧ min a.depth b.depth ≤ 64 ∧ Q (.bl (PySem.W.dataLt a b)) H
theorem op_ltD (hu : X.A.units + 64 < cLine) : OpR X (compareOp .Lt) (rLtD X.K) := by
  intro pins s σ H x y v u Q I rx ry h
  obtain ⟨a, b, ha, hb, al, nn, hd, q⟩ := h
  obtain ⟨as, r1⟩ := Dp.reads I a x v ha rx
  obtain ⟨bs, r2⟩ := Dp.reads I b y u hb ry
  exact PySem.W.lt_data r1 r2 al nn (by omega) ⟨.bl _, H, I, rfl, q⟩
def rLtG (K : PySem.W.Frag) : R2 := fun x y H Q => rIS (fun i j => decide (i < j)) (fun a b => decide (a < b)) x y H Q ∨ rLtD K x y H Q
theorem op_ltG2 (hu : X.A.units + 64 < cLine) : OpR X (compareOp .Lt) (rLtG X.K) := op_ltG.or (op_ltD hu)
theorem pure_ltG : PureOp (kx X) (rLtG X.K) dLtG := by
  intro F H x y z vx vy Q hs rx ry hf (hq : PureK _ F H z Q)
  have old : dLt x y = some z → rLtG X.K vx vy H Q := fun h => .inl (pure_lt F H x y z vx vy Q hs rx ry h hq)
  unfold dLtG at hf
  split at hf
  · rename_i xs ys
    unfold dLtT at hf
    split at hf
    · rename_i hc
      cases hf
      obtain ⟨⟨h1, h2⟩, h3⟩ := hc
      exact .inr ⟨_, _, shp_dp h1 (rx.deep hs), shp_dp h2 (ry.deep hs), h3, (fun z => by cases z), Nat.le_trans (Nat.min_le_left _ _) (shp_ok h1).2, hq.here hs Rep.bl⟩
    · cases hf
  · exact old hf
theorem dLtG_int {i j : Int} : dLtG (.int i) (.int j) = some (.bl (decide (i < j))) := rfl
theorem dLtG_str {i j : List Nat} : dLtG (.str i) (.str j) = some (.bl (decide (i < j))) := rfl
/-- (n, (a, b)) in order -/
theorem dLtG_n {a b c a' b' c' : Int} : dLtG (.tup [.int a, .tup [.int b, .int c]]) (.tup [.int a', .tup [.int b', .int c']]) = some (.bl (if a = a' then (if b = b' then decide (c < c') else decide (b < b')) else decide (a < a'))) := by
  have e : ∀ a b c : Int, toPy (.tup [.int a, .tup [.int b, .int c]]) = PySem.W.Datum.toD (a, (b, c)) := fun _ _ _ => rfl
  show dLtT _ _ = _
  unfold dLtT
  rw [if_pos ⟨⟨rfl, rfl⟩, by rw [e, e]; exact PySem.W.DatumOrd.alike (a, (b, c)) (a', (b', c'))⟩, e, e, PySem.W.DatumOrd.lt_eq]
  show some (D.bl (if a = a' then _ else _)) = _
  rfl
end
end L3

noncomputable section
/-! # L3V: what is left to show: instances, dicts -/
namespace L3
open PySem PySem.Spec L2
open PyProof.Rows hiding St
/-- an instance of the class c -/
def OpI (c : Str) (d : D) (K : List Str → List D → Prop) (_t : Tg K := .mk) : Prop := match d with
  | .ins c' ns xs => (c' == c) = true ∧ K ns xs
  | _ => False
theorem OpI_ins {c : Str} {ns : List Str} {xs : List D} {K : List Str → List D → Prop} : OpI c (.ins c ns xs) K = K ns xs := by simp [OpI]
/-- an own instance in a slot -/
def OpIS (o : Option (Option D)) (K : Str → List Str → List D → Prop) (_t : Tg K := .mk) : Prop := match o with
  | some (some (.ins c ns xs)) => K c ns xs
  | _ => False
theorem OpIS_ins {c : Str} {ns : List Str} {xs : List D} {K : Str → List Str → List D → Prop} : OpIS (some (some (.ins c ns xs))) K = K c ns xs := rfl
section
variable {K : D → Env3 → Prop} {KL : List D → Env3 → Prop} {KP : List (D × D) → Env3 → Prop} {Y : KX} {e : Env3} {m mo mi : M D} {ms : M (List D)} {k : Kt}
theorem Ok_Meth {c n : Str} {den : List D → FR} : Ok (mMeth c n den mo ms e) K Y = Ok (mo e) (fun d e1 => OpI c d fun ns xs => hasN n ns = false ∧ Ok (ms e1) (fun ds e2 => OkF (den (.ins c ns xs :: ds)) (fun z => K z e2) Y) Y) Y := by
  unfold mMeth
  rw [Ok_bind]; refine Ok_ext fun d e1 => ?_
  cases d with
  | ins c' ns xs =>
    show Ok (if (c' == c) = true then _ else _) K Y = ((c' == c) = true ∧ _)
    cases q : c' == c with
    | false => simp [Ok]
    | true =>
      have e0 : c' = c := eq_of_beq q
      subst e0
      rw [if_pos rfl]
      cases q2 : hasN n ns with
      | true => simp [Ok, q2]
      | false =>
        rw [if_neg Bool.false_ne_true, Ok_bind]
        have z : ((c' == c') = true) = True := by simp
        have z2 : (hasN n ns = false) = True := by rw [q2]; simp
        simp only [z, z2, true_and]
        refine Ok_ext fun ds e2 => ?_
        cases den (.ins c' ns xs :: ds) <;> rfl
  | _ => rfl
theorem Po_FldS {c f : Str} {i : Nat} : Po (sFldS c f i m e) k = Ok (m e) (fun d e1 => OpIS e1[i]? fun c' ns xs => (c' == c) = true ∧ ns.length < 1000 ∧ k.nx (e1.set i (some (.ins c' (putN f ns) (putX f d ns xs))))) k.ex := by
  unfold sFldS
  rw [Po_st]; refine Ok_ext fun d e1 => ?_
  cases e1[i]? with
  | none => rfl
  | some o =>
    cases o with
    | none => rfl
    | some x =>
      cases x with
      | ins c' ns xs =>
        show Po (if (c' == c) = true then _ else _) k = ((c' == c) = true ∧ _)
        cases q : c' == c with
        | false => simp [Po]
        | true =>
          rw [if_pos rfl]
          by_cases hn : ns.length < 1000
          · rw [if_pos hn]; simp [hn, Po]
          · rw [if_neg hn]; simp [hn, Po]
      | _ => rfl
theorem OkF_denI {n : Nat} {c : Str} {mm : M3} {ds : List D} {KD : D → Prop} : OkF (denI n c mm ds) KD Y = Po (mm (env0 n (.ins c [] [] :: ds))) ⟨fun e => OpIS e[0]? fun c' ns xs => KD (.ins c' ns xs), fun _ _ => False, fun _ => False, fun _ => False, Y⟩ := by
  unfold denI
  cases mm (env0 n (.ins c [] [] :: ds)) with
  | nx e =>
    show OkF (match (e[0]? : Option (Option D)) with | some (some (D.ins c' ns xs)) => .ok (D.ins c' ns xs) | _ => .stk) KD Y = OpIS e[0]? _
    cases e[0]? with
    | none => rfl
    | some o =>
      cases o with
      | none => rfl
      | some x => cases x <;> rfl
  | _ => rfl
theorem Ok_ItK : Ok (mItK m e) KL Y = Ok (m e) (fun d e1 => Op (dKeysL d) fun ks => KL ks e1) Y := by
  unfold mItK
  rw [Ok_bind]; refine Ok_ext fun d e1 => ?_
  cases d with
  | dic ks xs =>
    unfold dKeysL
    dsimp only
    by_cases h : simpleKs ks = true
    · rw [if_pos h, if_pos h]; rfl
    · rw [if_neg h, if_neg h]; rfl
  | _ => rfl
theorem Ok_PNil : Ok (mPNil e) KP Y = KP [] e := rfl
theorem Ok_PCons {r : M (List (D × D))} : Ok (mPCons m mo r e) KP Y = Ok (m e) (fun a e1 => Ok (mo e1) (fun b e2 => Ok (r e2) (fun ps e3 => KP ((a, b) :: ps) e3) Y) Y) Y := by
  unfold mPCons
  rw [Ok_bind]; refine Ok_ext fun a e1 => ?_
  rw [Ok_bind]; refine Ok_ext fun b e2 => ?_
  rw [Ok_bind]; rfl
theorem Ok_Disp {r : M (List (D × D))} : Ok (mDisp r e) K Y = Ok (r e) (fun ps e1 => okKeys (ps.map (·.1)) = true ∧ K (.dic (ps.map (·.1)) (ps.map (·.2))) e1) Y := by
  unfold mDisp
  rw [Ok_bind]; refine Ok_ext fun ps e1 => ?_
  by_cases h : okKeys (ps.map (·.1)) = true
  · rw [if_pos h]; simp [h, Ok]
  · rw [if_neg h]; simp [h, Ok]
theorem dDGet_str {s : List Nat} {ks xs : List D} : dDGet (.dic ks xs) (.str s) = dGetD (.str s) ks xs := rfl
theorem dDGet_int {s : Int} {ks xs : List D} : dDGet (.dic ks xs) (.int s) = dGetD (.int s) ks xs := rfl
theorem dKeysL_nil {xs : List D} : dKeysL (.dic [] xs) = some [] := rfl
theorem dKeysL_str {s : List Nat} {ks xs : List D} : dKeysL (.dic (.str s :: ks) xs) = some (.str s :: ks) := rfl
theorem dGetD_str {s t : List Nat} {ks : List D} {x : D} {xs : List D} : dGetD (.str s) (.str t :: ks) (x :: xs) = if t = s then some x else dGetD (.str s) ks xs := by
  show (if (t == s) = true then _ else _) = _
  by_cases h : t = s
  · rw [if_pos h, if_pos (by simp [h])]
  · rw [if_neg h, if_neg (by simp [h])]
theorem okKeys_1 {s : List Nat} : okKeys [.str s] = true := by simp [okKeys, simpleK]
theorem dMinG_str {s : List Nat} {xs : List D} : dMinG (.lst (.str s :: xs)) = (strsOf (.str s :: xs)).bind fun bs => (minS bs).map .str := rfl
theorem dMinG_int {s : Int} {xs : List D} : dMinG (.lst (.int s :: xs)) = dMin (.lst (.int s :: xs)) := rfl
end
end L3

noncomputable section
/-! # L3W: plain words that many laws share -/
namespace L3
open PySem PySem.Spec L2
open PyProof.Rows hiding St
theorem dAll_map {α : Type} (l : List α) (b : α → Bool) : dAll (.lst (l.map fun x => .bl (b x))) = some (.bl (l.all b)) := by
  simp only [dAll, blsOf_map, Option.map_some]
  congr 2
  rw [List.all_map]; rfl
theorem small_sz {n : Nat} (h : n ≤ 1000) : n ≤ sizeLine := Nat.le_trans h (by decide)
theorem mid_sz {n : Nat} (h : n ≤ 100000) : n ≤ sizeLine := Nat.le_trans h (by decide)
/-! the row of draws -/
def Row (ns : List Int) (row : List D) : Prop := ∃ a s l : Int, row = [.scr ns, .int a, .int s, .int l] ∧ 0 ≤ a
theorem atI_ok {α : Type} (xs : List α) (i : Int) (h0 : 0 ≤ i) (h1 : i < xs.length) : ∃ x, atI xs i = some x ∧ x ∈ xs := by
  obtain ⟨n, rfl⟩ : ∃ n : Nat, i = n := ⟨i.toNat, by omega⟩
  have h2 : n < xs.length := by omega
  refine ⟨xs[n], ?_, List.getElem_mem h2⟩
  exact atI_nat (List.getElem?_eq_getElem h2)
/-! data that == and the law's look take for the same -/
def Pl : Nat → D → Prop
  | _, .non => True
  | _, .bl _ => True
  | _, .int _ => True
  | _, .str _ => True
  | n + 1, .lst ds => ds.length ≤ 100000 ∧ ∀ x ∈ ds, Pl n x
  | n + 1, .tup ds => ds.length ≤ 100000 ∧ ∀ x ∈ ds, Pl n x
  | n + 1, .dic ks xs => (ks = [] ∧ xs = []) ∨ ∃ s x, ks = [.str s] ∧ xs = [x] ∧ Pl n x ∧ s.all (· < 0x110000) = true
  | _, _ => False
theorem Pl.up {n : Nat} : ∀ {d : D}, Pl n d → Pl (n + 1) d := by
  induction n with
  | zero => intro d h; cases d <;> simp_all [Pl]
  | succ n ih =>
    intro d h
    cases d with
    | lst ds => exact ⟨h.1, fun x hx => ih (h.2 x hx)⟩
    | tup ds => exact ⟨h.1, fun x hx => ih (h.2 x hx)⟩
    | dic ks xs =>
      rcases h with h | ⟨s, x, a, b, c, d⟩
      · exact .inl h
      · exact .inr ⟨s, x, a, b, ih c, d⟩
    | _ => simp_all [Pl]
/-! characters -/
def IsChar (c : List Nat) : Prop := 0 < c.length ∧ c.length ≤ 12 ∧ ∀ x ∈ c, x = 35 ∨ x = 46
/-- the sign at a moment -/
def at_ (c : List Nat) (k : Nat) : Nat := c.getD (k % c.length) 0
theorem at_ix {c : List Nat} (h0 : 0 < c.length) (k : Nat) : atI c ((k % c.length : Nat) : Int) = some (at_ c k) := by
  unfold at_
  have hlt : k % c.length < c.length := Nat.mod_lt _ h0
  rw [List.getD_eq_getElem?_getD, List.getElem?_eq_getElem hlt]
  exact atI_nat (List.getElem?_eq_getElem hlt)
theorem at_mod (c : List Nat) (k : Nat) : at_ c (k % c.length) = at_ c k := by
  unfold at_
  rw [Nat.mod_mod]
theorem at_mem {c : List Nat} (h0 : 0 < c.length) (k : Nat) : at_ c k ∈ c := by
  unfold at_
  have hlt : k % c.length < c.length := Nat.mod_lt _ h0
  rw [List.getD_eq_getElem?_getD, List.getElem?_eq_getElem hlt]
  exact List.getElem_mem hlt
theorem IsChar.at {c : List Nat} (h : IsChar c) (k : Nat) : at_ c k = 35 ∨ at_ c k = 46 := h.2.2 _ (at_mem h.1 k)
theorem rep_get (l : List Nat) : ∀ (m i : Nat), i < m * l.length → (List.replicate m l).flatten[i]? = l[i % l.length]?
  | 0, i, h => by omega
  | m + 1, i, h => by
    rw [List.replicate_succ, List.flatten_cons]
    by_cases hi : i < l.length
    · rw [List.getElem?_append_left hi, Nat.mod_eq_of_lt hi]
    · have h2 : i - l.length < m * l.length := by rw [Nat.add_mul, Nat.one_mul] at h; omega
      rw [List.getElem?_append_right (by omega), rep_get l m _ h2]
      congr 1
      rw [Nat.mod_eq_sub_mod (by omega : i ≥ l.length)]
/-! periods -/
def IsPer (c : List Nat) (p : Nat) : Prop := 0 < p ∧ p ≤ c.length ∧ c.length % p = 0 ∧ (List.replicate (c.length / p) (c.take p)).flatten = c
theorem IsPer.full {c : List Nat} (h : 0 < c.length) : IsPer c c.length := by
  refine ⟨h, Nat.le_refl _, Nat.mod_self _, ?_⟩
  rw [Nat.div_self h, List.take_length]
  simp
open Classical in
/-- the period: the least one -/
noncomputable def per (c : List Nat) : Nat := (((List.range c.length).map (· + 1)).find? fun p => decide (IsPer c p)).getD c.length
theorem per_of {c : List Nat} {p : Nat} (h : IsPer c p) (hl : ∀ q, q < p → ¬ IsPer c q) : per c = p := by
  classical
  unfold per
  have hm : p ∈ (List.range c.length).map (· + 1) := List.mem_map.mpr ⟨p - 1, List.mem_range.mpr (by have := h.1; have := h.2.1; omega), by have := h.1; omega⟩
  have : ((List.range c.length).map (· + 1)).find? (fun p => decide (IsPer c p)) = some p := by
    rw [List.find?_eq_some_iff_append]
    refine ⟨by simpa using h, ((List.range (p - 1)).map (· + 1)), ((List.range' p (c.length - p)).map (· + 1)), ?_, fun a ha => ?_⟩
    · have e1 : List.range c.length = List.range (p - 1) ++ ((p - 1) :: List.range' p (c.length - p)) := by
        have h1 := h.1
        have h2 := h.2.1
        have : c.length = (p - 1) + (1 + (c.length - p)) := by omega
        rw [List.range_eq_range', List.range_eq_range', this, ← List.range'_append (s := 0) (step := 1)]
        congr 1
        simp only [Nat.zero_add, Nat.one_mul]
        rw [Nat.add_comm 1, List.range'_succ]
        congr 1
        have e3 : p - 1 + 1 = p := by omega
        rw [e3]
        congr 1
        omega
      rw [e1, List.map_append, List.map_cons]
      congr 2
      have := h.1
      omega
    · obtain ⟨i, hi, rfl⟩ := List.mem_map.mp ha
      have := List.mem_range.mp hi
      simp only [Bool.not_eq_true', decide_eq_false_iff_not]
      exact hl _ (by omega)
  rw [this]; rfl
theorem ex_least {P : Nat → Prop} (n : Nat) (h : P n) : ∃ m, P m ∧ ∀ k, k < m → ¬ P k := by
  classical
  induction n using Nat.strongRecOn with
  | _ n ih =>
    by_cases q : ∃ k, k < n ∧ P k
    · obtain ⟨k, hk, pk⟩ := q
      exact ih k hk pk
    · exact ⟨n, h, fun k hk pk => q ⟨k, hk, pk⟩⟩
theorem per_ok {c : List Nat} (h0 : 0 < c.length) : IsPer c (per c) ∧ ∀ q, q < per c → ¬ IsPer c q := by
  obtain ⟨p, h1, h2⟩ := ex_least c.length (IsPer.full h0)
  rw [per_of h1 h2]
  exact ⟨h1, h2⟩
/-- one period -/
noncomputable def core (c : List Nat) : List Nat := c.take (per c)
theorem core_len {c : List Nat} (h0 : 0 < c.length) : (core c).length = per c := by
  unfold core; rw [List.length_take]; have := (per_ok h0).1.2.1; omega
theorem per_le {c : List Nat} (h0 : 0 < c.length) : per c ≤ c.length := (per_ok h0).1.2.1
theorem per_pos {c : List Nat} (h0 : 0 < c.length) : 0 < per c := (per_ok h0).1.1
theorem at_core_of {c : List Nat} {p : Nat} (h : IsPer c p) (k : Nat) : at_ (c.take p) k = at_ c k := by
  obtain ⟨h1, h2, h3, h4⟩ := h
  have hl : (c.take p).length = p := by rw [List.length_take]; omega
  have hn : c.length / p * p = c.length := Nat.div_mul_cancel (Nat.dvd_of_mod_eq_zero h3)
  have hk : k % c.length < c.length := Nat.mod_lt _ (by omega)
  unfold at_
  rw [hl, List.getD_eq_getElem?_getD, List.getD_eq_getElem?_getD]
  have := rep_get (c.take p) (c.length / p) (k % c.length) (by rw [hl, hn]; exact hk)
  rw [h4, hl, Nat.mod_mod_of_dvd _ (Nat.dvd_of_mod_eq_zero h3)] at this
  rw [this]
theorem at_core {c : List Nat} (h0 : 0 < c.length) (k : Nat) : at_ (core c) k = at_ c k := at_core_of (per_ok h0).1 k
theorem core_char {c : List Nat} (h : IsChar c) : IsChar (core c) := by
  have h1 := core_len h.1
  have h2 := per_pos h.1
  have h3 := per_le h.1
  have h4 := h.2.1
  exact ⟨by omega, by omega, fun x hx => h.2.2 x (List.mem_of_mem_take hx)⟩
/-! joins -/
theorem joinD_nil : ∀ ys : List (List Nat), joinD [] ys = ys.flatten
  | [] => rfl
  | [a] => by simp [joinD]
  | a :: b :: r => by
    show a ++ [] ++ joinD [] (b :: r) = _
    rw [joinD_nil (b :: r), List.append_nil]; rfl
theorem join_signs (s : List Nat) (h : s.length ≤ 1000) : dJoin (.str []) [.lst (s.map fun x => .str [x])] = some (.str s) := by
  simp only [dJoin]
  rw [strsOf_map s fun x => [x]]
  simp only [Option.bind_some, List.map_map, List.length_map, List.length_nil, Nat.mul_zero, Nat.add_zero]
  have e : (s.map (List.length ∘ fun x => [x])).sum = s.length := by
    clear h
    induction s with
    | nil => rfl
    | cons x r ih => simp only [List.map_cons, List.sum_cons, ih, Function.comp_apply, List.length_cons, List.length_nil]; omega
  rw [e, if_pos (by omega), joinD_nil]
  congr 2
  clear h e
  induction s with
  | nil => rfl
  | cons x r ih => rw [List.map_cons, List.flatten_cons, ih]; rfl
theorem flat_rep (n : Nat) (x : Nat) : (List.replicate n [x]).flatten = List.replicate n x := by
  induction n with
  | zero => rfl
  | succ n ih => rw [List.replicate_succ, List.flatten_cons, ih, List.replicate_succ]; rfl
theorem irange_succ (lo : Int) (n : Nat) : irange lo (n + 1) = irange lo n ++ [.int (lo + n)] := by
  unfold irange
  rw [List.range_succ, List.map_append]; rfl
theorem irange0 (n : Nat) : irange 0 n = (List.range n).map fun k => D.int (k : Nat) := by
  unfold irange
  congr 1
  funext k
  simp
theorem irange_zero {lo : Int} : irange lo 0 = [] := rfl
/-! so many signs from a phase on -/
def sees (c : List Nat) (p n : Nat) : List Nat := (List.range n).map fun k => at_ c (p + k)
theorem sees_len {c : List Nat} {p n : Nat} : (sees c p n).length = n := by simp [sees]
theorem sees_core {c : List Nat} (h0 : 0 < c.length) (p n : Nat) : sees (core c) p n = sees c p n := by
  unfold sees
  congr 1; funext k; exact at_core h0 _
/-- turned: so many moments ahead -/
def turn (c : List Nat) (k : Nat) : List Nat := c.drop k ++ c.take k
def turns (c : List Nat) : List (List Nat) := (List.range (core c).length).map (turn (core c))
theorem nodup_ite {c : Prop} [Decidable c] : (if c then True else True) = True := by split <;> rfl
theorem okF_ex2 {r : FR} {d : D} (h : OkF r (fun x => x = d) (fun _ _ => False)) : r = .ok d := by
  obtain ⟨x, h1, h2⟩ := okF_ex h
  rw [h1, h2]
/-! == [] -/
theorem shps_of {n : Nat} : ∀ {xs : List D}, (∀ d ∈ xs, shp d n = true) → shps xs n = true
  | [], _ => rfl
  | d :: r, h => by
    show (shp d n && shps r n) = true
    rw [h d (.head _), shps_of fun x hx => h x (.tail _ hx)]; rfl
theorem dEq_lnil {xs : List D} (h : ∀ d ∈ xs, shp d 63 = true) : dEq (.lst xs) (.lst []) = some (.bl xs.isEmpty) := by
  have h1 : shp (.lst xs) 64 = true := shps_of h
  have h2 : shp (.lst []) 64 = true := rfl
  have h3 : dEqv (.lst xs) (.lst []) = xs.isEmpty := by cases xs <;> rfl
  unfold dEq
  show (if _ then _ else _) = _
  rw [if_pos ⟨h1, h2⟩, h3]
theorem dNe_lnil {xs : List D} (h : ∀ d ∈ xs, shp d 63 = true) : dNe (.lst xs) (.lst []) = some (.bl (!xs.isEmpty)) := by
  have h1 : shp (.lst xs) 64 = true := shps_of h
  have h2 : shp (.lst []) 64 = true := rfl
  have h3 : dEqv (.lst xs) (.lst []) = xs.isEmpty := by cases xs <;> rfl
  unfold dNe
  show (if _ then _ else _) = _
  rw [if_pos ⟨h1, h2⟩, h3]
theorem shp_str {s : List Nat} {n : Nat} (h : s.all (· < 0x110000) = true) : shp (.str s) n = true := by cases n <;> exact h
theorem shp_int {i : Int} {n : Nat} : shp (.int i) n = true := by cases n <;> rfl
theorem shp_sign {c n : Nat} (h : c < 0x110000) : shp (.str [c]) n = true := shp_str (by simp [h])
/-- a comprehension that keeps what is wrong: empty where all is right -/
theorem filter_isEmpty {α : Type} (l : List α) (p : α → Bool) : (l.filter fun c => !p c).isEmpty = l.all p := by
  induction l with
  | nil => rfl
  | cons x r ih =>
    cases h : p x
    · rw [List.filter_cons_of_pos (by simp [h])]; simp [h]
    · rw [List.filter_cons_of_neg (by simp [h]), ih]; simp [h]
/-- a statement behind which the ways are joined -/
theorem Po_sq_join {o : O3} {k : Kt} {f : Env3 → Prop} (I : Env3 → Prop) (h1 : Po o { k with nx := I }) (h2 : ∀ e, I e → f e) : Po o (k.sq f) :=
  Po.imp h1 (fun e h => h2 e h) (fun _ _ h => h) (fun _ h => h) (fun _ h => h) (fun _ _ h => h)
end L3

noncomputable section
/-! # L3X: differences of two characters, plain -/
namespace L3
open PySem PySem.Spec L2
open PyProof.Rows hiding St
theorem at_add {c : List Nat} {T : Nat} (h : c.length ∣ T) (k : Nat) : at_ c (k + T) = at_ c k := by
  obtain ⟨m, rfl⟩ := h
  rw [← at_mod c (k + c.length * m), Nat.add_mul_mod_self_left, at_mod]
theorem at_addm {c : List Nat} {T : Nat} (h : c.length ∣ T) (k q : Nat) : at_ c (k + q * T) = at_ c k := at_add (Nat.dvd_mul_left_of_dvd h q) k
/-- the moments at which two characters differ from two phases on -/
def ap (c d : List Nat) (p q n : Nat) : List Nat := (List.range n).filter fun k => decide (at_ c (p + k) ≠ at_ d (q + k))
def un (c d : List Nat) (p q n : Nat) : Nat := (ap c d p q n).length
theorem un_le (c d : List Nat) (p q n : Nat) : un c d p q n ≤ n := by
  unfold un ap
  exact Nat.le_trans (List.length_filter_le _ _) (by rw [List.length_range]; exact Nat.le_refl _)
theorem ap_lt {c d : List Nat} {p q n k : Nat} (h : k ∈ ap c d p q n) : k < n := List.mem_range.mp (List.mem_filter.mp h).1
theorem un_succ (c d : List Nat) (p q n : Nat) : un c d p q (n + 1) = un c d p q n + if at_ c (p + n) ≠ at_ d (q + n) then 1 else 0 := by
  unfold un ap
  rw [List.range_succ, List.filter_append, List.length_append]
  congr 1
  by_cases h : at_ c (p + n) = at_ d (q + n)
  · rw [List.filter_cons_of_neg (by simp [h])]; simp [h]
  · rw [List.filter_cons_of_pos (by simp [h])]; simp [h]
theorem un_add {c d : List Nat} {T : Nat} (h1 : c.length ∣ T) (h2 : d.length ∣ T) (p q : Nat) : ∀ n, un c d p q (T + n) = un c d p q T + un c d p q n
  | 0 => by simp [un, ap]
  | n + 1 => by
    rw [show T + (n + 1) = (T + n) + 1 from rfl, un_succ, un_succ, un_add h1 h2 p q n]
    have e1 : at_ c (p + (T + n)) = at_ c (p + n) := by
      rw [show p + (T + n) = (p + n) + T by omega]; exact at_add h1 _
    have e2 : at_ d (q + (T + n)) = at_ d (q + n) := by
      rw [show q + (T + n) = (q + n) + T by omega]; exact at_add h2 _
    rw [e1, e2, Nat.add_assoc]
theorem un_mul {c d : List Nat} {T : Nat} (h1 : c.length ∣ T) (h2 : d.length ∣ T) (p q r : Nat) : ∀ m, un c d p q (m * T + r) = m * un c d p q T + un c d p q r
  | 0 => by simp
  | m + 1 => by
    rw [show (m + 1) * T + r = T + (m * T + r) by rw [Nat.add_mul]; omega, un_add h1 h2, un_mul h1 h2 p q r m, Nat.add_mul]
    omega
theorem un_div {c d : List Nat} {T : Nat} (h1 : c.length ∣ T) (h2 : d.length ∣ T) (p q n : Nat) : un c d p q n = n / T * un c d p q T + un c d p q (n % T) := by
  have := un_mul h1 h2 p q (n % T) (n / T)
  rw [← this, Nat.mul_comm, Nat.div_add_mod]
theorem ap_swap (c d : List Nat) (p q n : Nat) : ap d c q p n = ap c d p q n := by
  unfold ap
  congr 1; funext k
  rw [decide_eq_decide]
  exact ne_comm
theorem un_swap (c d : List Nat) (p q n : Nat) : un d c q p n = un c d p q n := by unfold un; rw [ap_swap]
/-- the first pair with the least number -/
def stepB (f : Nat × Nat → Nat) (b : Option (Nat × (Nat × Nat))) (x : Nat × Nat) : Option (Nat × (Nat × Nat)) := match b with
  | none => some (f x, x)
  | some (m, y) => if f x < m then some (f x, x) else some (m, y)
def bestB (f : Nat × Nat → Nat) (l : List (Nat × Nat)) : Option (Nat × (Nat × Nat)) := l.foldl (stepB f) none
theorem bestB_snoc (f : Nat × Nat → Nat) (l : List (Nat × Nat)) (x : Nat × Nat) : bestB f (l ++ [x]) = stepB f (bestB f l) x := by
  unfold bestB; rw [List.foldl_append]; rfl
/-- what it is -/
theorem bestB_spec (f : Nat × Nat → Nat) : ∀ l : List (Nat × Nat), match bestB f l with
    | none => l = []
    | some (m, y) => y ∈ l ∧ m = f y ∧ (∀ x ∈ l, m ≤ f x) := by
  intro l
  generalize hn : l.length = n
  induction n generalizing l with
  | zero => rw [List.length_eq_zero_iff.mp hn]; rfl
  | succ n ih =>
    obtain ⟨r, x, rfl⟩ : ∃ r x, l = r ++ [x] := ⟨l.dropLast, l.getLast (by intro h; rw [h] at hn; cases hn), (List.dropLast_concat_getLast _).symm⟩
    have hr : r.length = n := by simp at hn; exact hn
    have h := ih r hr
    rw [bestB_snoc]
    cases q : bestB f r with
    | none =>
      rw [q] at h
      have h' : r = [] := h
      subst h'
      simp [stepB]
    | some my =>
      obtain ⟨m, y⟩ := my
      rw [q] at h
      obtain ⟨h1, h2, h3⟩ := h
      unfold stepB
      dsimp only
      by_cases hlt : f x < m
      · rw [if_pos hlt]
        refine ⟨by simp, rfl, fun z hz => ?_⟩
        rcases List.mem_append.mp hz with hz | hz
        · have := h3 z hz; omega
        · rw [List.mem_singleton.mp hz]; exact Nat.le_refl _
      · rw [if_neg hlt]
        refine ⟨List.mem_append_left _ h1, h2, fun z hz => ?_⟩
        rcases List.mem_append.mp hz with hz | hz
        · exact h3 z hz
        · rw [List.mem_singleton.mp hz]; omega
theorem bestB_some {f : Nat × Nat → Nat} {l : List (Nat × Nat)} (h : l ≠ []) : ∃ m y, bestB f l = some (m, y) ∧ y ∈ l ∧ m = f y ∧ ∀ x ∈ l, m ≤ f x := by
  have := bestB_spec f l
  cases q : bestB f l with
  | none => rw [q] at this; exact absurd this h
  | some my =>
    obtain ⟨m, y⟩ := my
    rw [q] at this
    exact ⟨m, y, rfl, this⟩
/-- all phases -/
def phs (a b : Nat) : List (Nat × Nat) := (List.range a).flatMap fun p => (List.range b).map fun q => (p, q)
theorem mem_phs {a b : Nat} {x : Nat × Nat} : x ∈ phs a b ↔ x.1 < a ∧ x.2 < b := by
  unfold phs
  rw [List.mem_flatMap]
  constructor
  · rintro ⟨p, hp, hx⟩
    obtain ⟨q, hq, rfl⟩ := List.mem_map.mp hx
    exact ⟨List.mem_range.mp hp, List.mem_range.mp hq⟩
  · rintro ⟨h1, h2⟩
    exact ⟨x.1, List.mem_range.mpr h1, List.mem_map.mpr ⟨x.2, List.mem_range.mpr h2, rfl⟩⟩
/-- one pair ahead of another -/
def ltPh (x y : Nat × Nat) : Prop := x.1 < y.1 ∨ x.1 = y.1 ∧ x.2 < y.2
theorem phs_sorted (a b : Nat) : (phs a b).Pairwise ltPh := by
  unfold phs
  rw [List.flatMap]
  rw [List.pairwise_flatten]
  constructor
  · intro l hl
    obtain ⟨p, hp, rfl⟩ := List.mem_map.mp hl
    rw [List.pairwise_map]
    exact (List.pairwise_lt_range).imp fun h => .inr ⟨rfl, h⟩
  · rw [List.pairwise_map]
    refine (List.pairwise_lt_range).imp fun {p q} h x hx y hy => ?_
    obtain ⟨_, _, rfl⟩ := List.mem_map.mp hx
    obtain ⟨_, _, rfl⟩ := List.mem_map.mp hy
    exact .inl h
theorem phs_ne {a b : Nat} (ha : 0 < a) (hb : 0 < b) : phs a b ≠ [] := fun h => by
  have : (0, 0) ∈ phs a b := mem_phs.mpr ⟨ha, hb⟩
  rw [h] at this; cases this
theorem phs_len (a b : Nat) : (phs a b).length = a * b := by
  unfold phs
  rw [List.length_flatMap]
  induction a with
  | zero => simp
  | succ a ih =>
    rw [List.range_succ, List.map_append, List.sum_append, ih, Nat.succ_mul]
    simp
def unP (c d : List Nat) (n : Nat) : Nat × Nat → Nat := fun x => un c d x.1 x.2 n
/-- the least differences of two characters -/
def best (c d : List Nat) (n : Nat) : Option (Nat × (Nat × Nat)) := bestB (unP c d n) (phs (per c) (per d))
def pD (x : Nat × Nat) : D := .tup [.int (x.1 : Nat), .int (x.2 : Nat)]
def bD : Option (Nat × (Nat × Nat)) → D
  | none => .non
  | some (m, x) => .tup [.int (m : Nat), pD x]
/-- least over one order and the other -/
theorem best_swap {c d : List Nat} (hc : 0 < c.length) (hd : 0 < d.length) (n : Nat) : (best d c n).map (·.1) = (best c d n).map (·.1) := by
  obtain ⟨m, y, e, h1, h2, h3⟩ := bestB_some (f := unP c d n) (phs_ne (per_pos hc) (per_pos hd))
  obtain ⟨m', y', e', h1', h2', h3'⟩ := bestB_some (f := unP d c n) (phs_ne (per_pos hd) (per_pos hc))
  unfold best
  rw [e, e']
  simp only [Option.map_some, Option.some.injEq]
  have a1 := h3 (y'.2, y'.1) (mem_phs.mpr ⟨(mem_phs.mp h1').2, (mem_phs.mp h1').1⟩)
  have a2 := h3' (y.2, y.1) (mem_phs.mpr ⟨(mem_phs.mp h1).2, (mem_phs.mp h1).1⟩)
  have b1 : unP c d n (y'.2, y'.1) = unP d c n y' := (un_swap c d y'.2 y'.1 n).symm
  have b2 : unP d c n (y.2, y.1) = unP c d n y := un_swap c d y.1 y.2 n
  omega
end L3

/-! # L3Y: what is owned, handed on: displays, calls that borrow, a told list's own list changed; a second try -/
namespace L3
open PySem PySem.Spec L2
open PyProof.Rows hiding St
section
variable {X : Cx} {io : List Nat} {E : WX} {mk : List Kd} {kr : Kd} {W : Kx} {g : Gh} {F F' H H' : Hp} {rt : Nat → List Addr} {σ : L2.St}
/-! ### [x] of an owned thing -/
theorem ev_lst1 {x : Expr} {pos : Pos} {m : M D} {k : Kd} (h : EV X io E mk x m k) (hs : starEach [x] X.env = [(false, eval x X.env)] := by rfl) : EV X io E mk (.List [x] pos) (mLst (mCons m mNil)) (.own k) :=
  (pe_lst (pa_cons h pa_nil hs)).imp fun σ H Q h => by
  obtain ⟨g, F, e, rt, l, h⟩ := h
  refine ⟨g, F, e, rt, l, ?_⟩
  unfold mLst mCons mNil at h
  cases q : m e with
  | exc c fs => rw [q] at h; exact h
  | stk => rw [q] at h; exact h
  | ok d e1 =>
    rw [q] at h
    intro v H1 r
    obtain ⟨F1, rt1, rs, h1, l1, kk, n, o⟩ := r.ex
    simp only [R.bind_ok] at h
    refine ⟨by show 1 ≤ sizeLine; decide, fun p hp => ?_⟩
    have hF := fresh_F l1.fr.sub hp
    have nr : ∀ i, p ∉ rt1 i := fun i m => by obtain ⟨_, o, b⟩ := l1.none m; rw [hp] at b; cases b
    have nrs : p ∉ rs := fun m => by obtain ⟨_, o, b⟩ := kk.none p m; rw [hp] at b; cases b
    refine h _ _ ⟨F1, rt1, p :: rs, h1, l1.grow (Same.refl _) (l1.fr.fresh hp) fun i q hq => ⟨upd_ne fun e => nr i (e ▸ hq), (l1.none hq).1⟩, ?_, List.nodup_cons.mpr ⟨nrs, n⟩, fun q hq => ?_⟩
    · simp only [RepK]
      refine ⟨p, [v], rs, rfl, upd_same, hF, ⟨v, [], rs, [], rfl, by simp, kk.frame (Same.refl _) fun q hq => ⟨upd_ne fun e => nrs (e ▸ hq), (kk.none q hq).1⟩, rfl, rfl⟩, rfl⟩
    · rcases List.mem_cons.mp hq with e | hq
      · subst e
        exact ⟨nr, l1.fr.old hp, fun m => by obtain ⟨o, b⟩ := l1.fr.wr q m; rw [hp] at b; cases b⟩
      · exact o q hq

/-! ### a call that borrows: what it is handed stays owned; its answer is flat -/
def flatB : D → Bool
  | .non => true
  | .bl _ => true
  | .int _ => true
  | .str _ => true
  | _ => false
theorem flatB_rep {d : D} {v : V} (h : flatB d = true) (r : Rep W F d v) (F' : Hp) : Rep W F' d v := by
  cases d <;> simp only [flatB, Bool.false_eq_true] at h <;> simpa [Rep] using r
def opFrz (mk : List Kd) : Op3 → Bool
  | .ex => true
  | .sl i => (mk.getD i .fr).frz
def mCallB (os : List Op3) (den : List D → FR) (ms : M (List D)) : M D := fun e => (ms e).bind fun ds e1 => match opds os ds e1 with
  | some xs => (match den xs with
    | .ok d => if flatB d = true then .ok d e1 else .stk
    | _ => .stk)
  | none => .stk
theorem borrow_args {e : Env3} {G : Hp} (l : Rl W io g F mk e rt σ H) (hG : Same F G) (hr : ∀ i p, p ∈ rt i → G p = H p) : ∀ {os : List Op3} {ds : List D} {vs : List V} {xs : List D}, os.all (opFrz mk) = true → AtOs W F σ os ds vs → opds os ds e = some xs → RepL W G xs vs ∧ xs.length = os.length
  | [], ds, vs, xs, _, ⟨e1, e2⟩, h => by
    subst e1 e2
    simp only [opds] at h
    cases h
    exact ⟨.nil, rfl⟩
  | o :: os, ds, vs, xs, ho, ⟨d, r, v, w, e1, e2, a, b⟩, h => by
    subst e1 e2
    rw [List.all_cons, Bool.and_eq_true] at ho
    simp only [opds, Option.bind_eq_some_iff, Option.some.injEq] at h
    obtain ⟨x, hx, ys, hy, rfl⟩ := h
    obtain ⟨r1, r2⟩ := borrow_args l hG hr ho.2 b hy
    refine ⟨.cons ?_ r1, by simp [r2]⟩
    cases o with
    | ex =>
      have : d = x := Option.some.inj hx
      subst this
      exact Rep.mono hG a
    | sl i =>
      have hx' : (e[i]?).join.map D.un = some x := hx
      obtain ⟨x0, hx0, hxu⟩ := Option.map_eq_some_iff.mp hx'
      subst hxu
      have h2 : e[i]? = some (some x0) := by
        cases q : e[i]? with
        | none => rw [q] at hx0; cases hx0
        | some y => rw [q] at hx0; simp at hx0; rw [hx0]
      obtain ⟨v', hv, k⟩ := l.var i x0 h2
      have a' : σ[i]? = some (some v) := a
      rw [a'] at hv
      cases hv
      exact rep_un.mp (RepK.toRep hG ho.1 k fun p hp => hr i p hp)
theorem callB_of {n : Nat} {den : List D → FR} {ms : M (List D)} {os : List Op3} (ho : os.all (opFrz mk) = true) (hn : os.length = n) (Q : VK) (h : tE W io E mk (mCallB os den ms) .fr σ H Q) : tCallSD (spP W n .fr den) [] (fun σ c d H => E c d σ H) (tAs W io E mk ms os) σ H Q := by
  obtain ⟨g, F, e, rt, l, h⟩ := h
  refine ⟨g, F, e, rt, l, ?_⟩
  unfold mCallB at h
  cases q : ms e with
  | exc c fs => rw [q] at h; exact h
  | stk => rw [q] at h; exact h
  | ok ds e1 =>
    rw [q] at h
    intro vs F1 rt1 H1 s1 l1 a1
    simp only [R.bind_ok] at h
    cases qo : opds os ds e1 with
    | none => rw [qo] at h; exact h.elim
    | some xs =>
      rw [qo] at h
      dsimp only at h
      have hroot : ∀ i p, p ∈ rt1 i → p ∈ (List.range e1.length).flatMap rt1 := fun i p hp => by
        refine List.mem_flatMap.mpr ⟨i, List.mem_range.mpr ?_, hp⟩
        refine Nat.lt_of_not_le fun hn => ?_
        rw [l1.emp i fun d q => by rw [List.getElem?_eq_none hn] at q; cases q] at hp
        cases hp
      have hnone : ∀ p ∈ (List.range e1.length).flatMap rt1, F1 p = none := fun p hp => by
        obtain ⟨i, _, hp⟩ := List.mem_flatMap.mp hp
        exact (l1.none hp).1
      obtain ⟨rx, lx⟩ := borrow_args (G := L3.frz F1 H1 ((List.range e1.length).flatMap rt1)) l1 (frz_of hnone) (fun i p hp => frz_in (hroot i p hp)) ho a1 qo
      refine ⟨_, xs, frz_sub l1.fr.sub, by rw [List.append_nil]; exact rx, by rw [lx, hn], ?_⟩
      cases qd : den xs with
      | exc c fs => rw [qd] at h; exact h.elim
      | stk => rw [qd] at h; exact h.elim
      | ok d =>
        rw [qd] at h
        dsimp only at h
        by_cases hf : flatB d = true
        case neg => rw [if_neg hf] at h; exact h.elim
        rw [if_pos hf] at h
        intro v H' F' rs b1 b2 b3 b4 k nd o
        refine h v H' ⟨F1, rt1, [], s1, l1.grow (Same.refl _) ⟨l1.fr.sub.trans b3, fun b o h hb => b3 b o (l1.fr.keep b o h hb), l1.fr.frz, l1.fr.f0, fun q hq => ?_⟩ fun i p hp => ?_, ⟨flatB_rep hf k.1 F1, rfl⟩, .nil, fun p hp => by cases hp⟩
        · obtain ⟨o, e⟩ := l1.fr.wr q hq
          exact ⟨o, b3 q o e⟩
        · obtain ⟨z1, o, z2⟩ := l1.none hp
          exact ⟨by rw [z2]; exact b3 p o z2, z1⟩
theorem ev_callB {x : Str} {p pos : Pos} {e0 : Expr} {es : List Expr} {n k j : Nat} {ms : M (List D)} {os : List Op3} {den : List D → FR} (c : CalP X.prog X.w X.K X.mg X.base k x n .fr den) (hr : Room j X.A) (tk : Takes X E) (hg : Gl X x) (ha : AV X io E mk (e0 :: es) ms os) (hk : k ≤ j := by decide) (ho : os.all (opFrz mk) = true := by rfl) (hn : os.length = n := by rfl) (hdb : (x == ("__debug__" : Str)) = false := by decide)
    (he : starEach (e0 :: es) X.env = (false, eval e0 X.env) :: starEach es X.env := by rfl) (hpl : (backTo pos (starEach es X.env)).any (·.1) = false := by rfl) : EV X io E mk (.Call (.Name x p) (e0 :: es) [] pos) (mCallB os den ms) .fr := by
  obtain ⟨f, fd, ps, F, hm, kp, b⟩ := c.ex
  exact (pe_callSD (E := fun σ c d H => E c d σ H) F (hr.mono hk) hg hm kp b .nil (passAt' tk) ha hdb he hpl).imp fun σ H Q h => callB_of (W := kx X) ho hn Q h

/-! ### a told list's own first list is changed, and then forgotten -/
theorem Rl.forget {e : Env3} {i : Nat} {q : Addr} {u : HO} (l : Rl W io g F mk e rt σ H) (hq : q ∈ rt i) : Rl W io g F mk (e.set i Option.none) (fun j => if j = i then [] else rt j) σ (upd H q u) := by
  have hF := (l.none hq).1
  have st : ∀ {j p}, p ∈ rt j → j ≠ i → upd H q u p = H p ∧ F p = Option.none := fun {j p} hp hj => ⟨upd_ne fun z => l.dj i j q (Ne.symm hj) hq (z ▸ hp), (l.none hp).1⟩
  refine ⟨⟨fun b o h => by rw [upd_ne (ne_of_none h hF)]; exact l.fr.sub b o h, fun b o h hb => ?_, l.fr.frz, l.fr.f0, fun p hp => ?_⟩, by rw [List.length_set]; exact l.len, fun j d h => ?_, fun j h => ?_, fun j => ?_, fun a b p hab h1 h2 => ?_, fun j p hp => ?_, l.pin⟩
  · have hbq : b ≠ q := fun z => by
      subst z
      rcases l.own i b hq with z | z
      · rw [h] at z; cases z
      · exact hb z.1
    rw [upd_ne hbq]; exact l.fr.keep b o h hb
  · by_cases hpq : p = q
    · subst hpq; exact ⟨_, upd_same⟩
    · obtain ⟨o, z⟩ := l.fr.wr p hp
      exact ⟨o, by rw [upd_ne hpq]; exact z⟩
  · by_cases hj : j = i
    · subst hj
      rw [List.getElem?_set] at h
      simp only [if_true] at h
      split at h <;> cases h
    · rw [List.getElem?_set_ne (Ne.symm hj)] at h
      obtain ⟨v, hv, k⟩ := l.var j d h
      rw [if_neg hj]
      exact ⟨v, hv, k.frame (Same.refl _) fun p hp => st hp hj⟩
  · by_cases hj : j = i
    · rw [if_pos hj]
    · rw [if_neg hj]
      refine l.emp j fun d z => h d ?_
      rw [List.getElem?_set_ne (Ne.symm hj)]
      exact z
  · split
    · exact .nil
    · exact l.nd j
  · split at h1
    · cases h1
    · split at h2
      · cases h2
      · exact l.dj a b p hab h1 h2
  · split at hp
    · cases hp
    · exact l.own j p hp
def sGst (i : Nat) : M3 := fun e => match e[i]? with
  | some (some (D.lst (D.lst xs :: _))) => if xs.length < sizeLine then .nx (e.set i Option.none) else .stk
  | _ => .stk
variable {x : Str} {np ip jp apos cpos spos : Pos} {j0 : Nat}
theorem gst_of {i : Nat} {Dd : Ends} {r : V → List V → Hp → VK → Prop} {vs0 : List V} (hr : ∀ (q : Addr) (ws : List V) (H : Hp) (Q : VK), H q = some (.lst ws) → ws.length < sizeLine → (∀ u, Q .non (upd H q u)) → r (.ref q) vs0 H Q) (hi : mk.getD i .fr = .own (.own .fr)) (h : tS W io E mk kr (sGst i) Dd σ H) :
    tOp (rIxL W.K) (tVar i) (tC (.int 0)) σ H fun x H1 => tyV W.K "list" x H1 ∧ r x vs0 H1 fun _ H2 => Dd.nx σ H2 := by
  obtain ⟨g, F, e, rt, l, h⟩ := h
  unfold sGst at h
  split at h
  · rename_i xs r0 he
    by_cases hz : xs.length < sizeLine
    case neg => rw [if_neg hz] at h; exact h.elim
    rw [if_pos hz] at h
    obtain ⟨v, hv, k⟩ := l.var i _ he
    rw [hi] at k
    simp only [RepK, RepKs] at k
    obtain ⟨p, vs, qs, e1, e2, e3, ⟨v1, w1, q1, qs1, e4, e5, ⟨q, ws, qs2, e6, e7, e8, e9, e10⟩, e11⟩, e12⟩ := k
    subst e1 e4 e6 e10 e5
    have hq : q ∈ rt i := by rw [e12]; simp
    have hws : ws.length = xs.length := by
      have := ((repKs_fr (W := W) (H := H) (F := F)).mp e9).1.length
      omega
    refine ⟨_, hv, p, _, 0, .ref q, rfl, rfl, SqL.of e2, atI_nat (j := 0) rfl, .inl ⟨rfl, ws, SqL.of e7⟩, hr q ws H _ e7 (by omega) fun u => ?_⟩
    exact h σ F _ _ rfl (Same.refl _) (l.forget hq)
  · exact h.elim
theorem sv_gRev (i : Nat) (hx : PE X (.Name x np) (tVar i)) (hi : mk.getD i .fr = .own (.own .fr) := by rfl)
    (hbase : attributeBase (.Subscript (.Name x np) (.Constant (.int 0) j0 jp) ip) "reverse" X.env (eval (.Subscript (.Name x np) (.Constant (.int 0) j0 jp) ip) X.env) = eval (.Subscript (.Name x np) (.Constant (.int 0) j0 jp) ip) X.env := by rfl) (hline : (apos.endLine == cpos.line) = true := by rfl)
    (hsw : swapsWith (.Call (.Attribute (.Subscript (.Name x np) (.Constant (.int 0) j0 jp) ip) "reverse" apos) [] [] cpos) none spos.line X.env = pure false := by rfl) :
    SV X io E mk kr (.Expr (.Call (.Attribute (.Subscript (.Name x np) (.Constant (.int 0) j0 jp) ip) "reverse" apos) [] [] cpos) spos) (sGst i) :=
  (ps_expr (pe_bm0 PySem.F.plainAttrs_list PySem.F.slot_list_reverse PySem.F.type_list_reverse mt_reverse (pe_ix ix_list hx (pe_int (i := 0)) (fun _ _ => rfl)) hbase hline) hsw).imp fun D' σ H h =>
    gst_of (r := rReverse) (vs0 := []) (fun q ws H Q e _ h => ⟨q, ws, rfl, rfl, e, h _⟩) hi h
theorem sv_gClear (i : Nat) (hx : PE X (.Name x np) (tVar i)) (hi : mk.getD i .fr = .own (.own .fr) := by rfl)
    (hbase : attributeBase (.Subscript (.Name x np) (.Constant (.int 0) j0 jp) ip) "clear" X.env (eval (.Subscript (.Name x np) (.Constant (.int 0) j0 jp) ip) X.env) = eval (.Subscript (.Name x np) (.Constant (.int 0) j0 jp) ip) X.env := by rfl) (hline : (apos.endLine == cpos.line) = true := by rfl)
    (hsw : swapsWith (.Call (.Attribute (.Subscript (.Name x np) (.Constant (.int 0) j0 jp) ip) "clear" apos) [] [] cpos) none spos.line X.env = pure false := by rfl) :
    SV X io E mk kr (.Expr (.Call (.Attribute (.Subscript (.Name x np) (.Constant (.int 0) j0 jp) ip) "clear" apos) [] [] cpos) spos) (sGst i) :=
  (ps_expr (pe_bm0 PySem.F.plainAttrs_list PySem.F.slot_list_clear PySem.F.type_list_clear mt_clear (pe_ix ix_list hx (pe_int (i := 0)) (fun _ _ => rfl)) hbase hline) hsw).imp fun D' σ H h =>
    gst_of (r := rClear) (vs0 := []) (fun q ws H Q e _ h => ⟨q, ws, rfl, rfl, e, h _⟩) hi h
theorem pe_negc {n : Int} {j : Nat} {p1 p2 : Pos} : PE X (.UnaryOp .USub (.Constant (.int n) j p1) p2) (tC (.int (-n))) := (pe_un un_neg pe_int).imp fun σ H Q h => ⟨n, rfl, h⟩
theorem sv_gApp (i : Nat) {e0 : Expr} {v : V} (hx : PE X (.Name x np) (tVar i)) (he : PE X e0 (tC v)) (hi : mk.getD i .fr = .own (.own .fr) := by rfl)
    (hbase : attributeBase (.Subscript (.Name x np) (.Constant (.int 0) j0 jp) ip) "append" X.env (eval (.Subscript (.Name x np) (.Constant (.int 0) j0 jp) ip) X.env) = eval (.Subscript (.Name x np) (.Constant (.int 0) j0 jp) ip) X.env := by rfl) (hline : (apos.endLine == cpos.line) = true := by rfl)
    (hfew : ((backTo cpos (starEach [e0] X.env)).all (fun x => !x.1) && (backToKw cpos (keywordEach [] X.env)).all (fun x => x.1.isSome)
      && decide (([e0] : List Expr).length + ([] : List Keyword).length + (if ([] : List Keyword).isEmpty then 0 else 1) < 30)) = true := by rfl) (hs : starEach [e0] X.env = (false, eval e0 X.env) :: starEach [] X.env := by rfl)
    (hsw : swapsWith (.Call (.Attribute (.Subscript (.Name x np) (.Constant (.int 0) j0 jp) ip) "append" apos) [e0] [] cpos) none spos.line X.env = pure false := by rfl) :
    SV X io E mk kr (.Expr (.Call (.Attribute (.Subscript (.Name x np) (.Constant (.int 0) j0 jp) ip) "append" apos) [e0] [] cpos) spos) (sGst i) :=
  (ps_expr (pe_bm PySem.F.plainAttrs_list PySem.F.slot_list_append PySem.F.type_list_append mt_append (pe_ix ix_list hx (pe_int (i := 0)) (fun _ _ => rfl)) (pa_cons he pa_nil hs) hbase hfew hline hs) hsw).imp fun D' σ H h =>
    gst_of (r := rAppend) (vs0 := [v]) (fun q ws H Q e hz h => ⟨q, ws, v, rfl, rfl, e, hz, h _⟩) hi h
end
/-! ### try: body, except the base class as n: whether it is of one class, and its value -/
def tSuite2 (K : PySem.W.Frag) (mg : Str → Option Value) (cls : Value) (d : Option Addr) (a : Addr) (i : Nat) (x : Str) : TS := fun D σ H => ∃ (C dd : Addr) (fs : List (Str × V)) (kb : Bool) (y : V), σ[i]? = some (some (.ref a)) ∧ cls = .ref C ∧ d = some dd ∧ XIs K C ∧ H dd = some (.xd fs) ∧
  (∀ D, mg x = some (.ref D) → PySem.W.kitOne K cls (.ref D) = some kb) ∧ PySem.W.kitOne K cls (.type "ValueError") = some true ∧ fs.lookup ("value" : Str) = some y ∧
  ∀ t, H t = none → D.rt (.ref t) (upd H t (.tup [.bl kb, y]))
theorem suite2_ok {X : Cx} {a : Addr} {oe : Obj} {cls : Value} {d : Option Addr} {pn : List (Addr × Obj)} {i : Nat} {n x : Str}
    {d1 d2 d3 d4 d5 e1 e2 e3 e4 ep vp tp rp : Pos} {kk : Nat} (hz : Zc cls d oe) (hf : ∃ vs, oe.data = .fields vs) (hc : Clss X [x])
    (hN : X.N[i]? = some n) (hv : Vis X.env.scope n) (hdb : (n == ("__debug__" : Str)) = false) (hcd : (n == ("__classdict__" : Str)) = false)
    (hg : Gl X "isinstance") (hm : X.mg "isinstance" = none) (hgV : Gl X "ValueError") (hmV : X.mg "ValueError" = none) :
    PSs (X.suite a ((a, oe) :: pn)) [.Return (some (.Tuple [.BoolOp .And [.Call (.Name "isinstance" d1) [.Name n d2, .Name x d3] [] d4, .Call (.Name "isinstance" e1) [.Name n e2, .Name "ValueError" e3] [] e4] d5, .Attribute (.Name n ep) "value" vp] kk tp)) rp] (tSuite2 X.K X.mg cls d a i x) := by
  have ve : ∀ p, PE (X.suite a ((a, oe) :: pn)) (.Name n p) (tVar i) := fun p => pe_var hN hv hdb hcd
  obtain ⟨hgx, hdx, Cx, hmx⟩ := hc x (.head _)
  have P1 := pe_callB (X := X.suite a ((a, oe) :: pn)) (p := d1) (pos := d4) (call_isX hz hf) hg hm boot_isi (pa_cons (ve d2) (pa_cons (pe_glob (v := .ref Cx) (pos := d3) hgx hmx rfl hdx) pa_nil))
  have P2 := pe_callB (X := X.suite a ((a, oe) :: pn)) (p := e1) (pos := e4) (call_isX hz hf) hg hm boot_isi (pa_cons (ve e2) (pa_cons (pe_bltn (v := .ty "ValueError") (pos := e3) hgV hmV boot_VE rfl (by decide) (by decide)) pa_nil))
  have PR := ps_ret (pos := rp) (pe_tup (x1 := kk) (pos := tp) (pa_cons (pe_and (pos := d5) P1 (pe_one (pos := d5) P2)) (pa_cons (pe_xfD (pos := vp) hz hf (ve ep)) pa_nil)))
  refine (pss_one PR).imp fun D σ H h => ?_
  obtain ⟨C, dd, fs, kb, y, hi, rfl, rfl, T, ed, hkb, hkV, hy, h⟩ := h
  have fin : ∀ z, z = kb → tCons (fun σ H Q => ∃ C_1, Value.ref C = Value.ref C_1 ∧ XIs X.K C_1 ∧ tXf a (Value.ref C) (some dd) C_1 (Str.ofString "value") (tVar i) σ H Q) tNil σ H
      (fun xs H1 => (V.bl z :: xs).length ≤ sizeLine ∧ ∀ p, H1 p = none → D.rt (.ref p) (upd H1 p (.tup (V.bl z :: xs)))) := fun z ez => by
    subst ez
    exact ⟨C, rfl, T, _, hi, rfl, rfl, dd, fs, y, rfl, ed, hy, (by show 2 ≤ sizeLine; decide), fun t ht => h t ht⟩
  refine ⟨_, hi, _, _, kb, C, dd, fs, rfl, fun u r => r, rfl, rfl, T, ed, hkb Cx hmx, kb, rfl, ?_⟩
  cases kb with
  | true =>
    rw [if_pos rfl]
    exact ⟨_, hi, _, _, true, C, dd, fs, rfl, fun u r => r, rfl, rfl, T, ed, hkV, fin true rfl⟩
  | false =>
    rw [if_neg Bool.false_ne_true]
    exact fin false rfl
def sTry2 (i : Nat) (cs : List Str) (x : Str) (m : M3) : M3 := fun e => match m e with
  | .exc c [(f, d)] => if c ∈ cs ∧ f = ("value" : Str) ∧ i < e.length then .rt (.tup [.bl (decide (c = x)), d]) (List.replicate e.length Option.none) else .stk
  | .exc _ _ => .stk
  | o => o
section
variable {X : Cx} {E : WX} {mk : List Kd} {W : Kx} {kr : Kd}
theorem sv_try2 {cE n x : Str} {body : List Stmt} {m : M3} (i : Nat) (cs : List Str)
    {np d1 d2 d3 d4 d5 e1 e2 e3 e4 ep vp tp rp pos pos' : Pos} {kk : Nat} (T : ExT X.K X.mg cE cs [x]) (tk : Takes X E)
    (hb : ∀ (W : WX) (pn : List (Addr × Obj)) (xe : Value → Shared → Prop), Takes (X.tr pn xe) W → PassesOwn (model X.prog X.w) X.A X.env xe → BV (X.tr pn xe) [] W mk kr body m)
    (hc : Clss X [x]) (hgE : Gl X cE) (hg : Gl X "isinstance") (hm : X.mg "isinstance" = none) (hgV : Gl X "ValueError") (hmV : X.mg "ValueError" = none)
    (hst : X.stack = X.env :: X.outer := by rfl) (hfr : X.env.frame = some X.env.locals := by rfl) (hln : X.env.kindOf n = some .local := by rfl) (hdE : (cE == ("__debug__" : Str)) = false := by decide)
    (hND : X.N.Nodup := by assumption) (hN : X.N[i]? = some n := by rfl) (hv : Vis X.env.scope n := by first | exact Or.inl rfl | exact Or.inr (Or.inl rfl) | exact Or.inr (Or.inr rfl)) (hdb : (n == ("__debug__" : Str)) = false := by decide) (hcd : (n == ("__classdict__" : Str)) = false := by decide) :
    SV X [] E mk kr (.Try body [.ExceptHandler (some (.Name cE np)) (some n) [.Return (some (.Tuple [.BoolOp .And [.Call (.Name "isinstance" d1) [.Name n d2, .Name x d3] [] d4, .Call (.Name "isinstance" e1) [.Name n e2, .Name "ValueError" e3] [] e4] d5, .Attribute (.Name n ep) "value" vp] kk tp)) rp] pos'] [] [] pos) (sTry2 i cs x m) := by
  obtain ⟨B, hB, T⟩ := T.base
  refine (ps_try_as (i := i) (c := .ref B) (tb := fun W => tS (kx X) [] W mk kr m) (ts := fun a cls d => tSuite2 X.K X.mg cls d a i x) hst hfr hND hN hln ⟨hgE, hdE, .inl hB⟩ tk hb
    fun a oe cls d pn hz hf => suite2_ok hz hf hc hN hv hdb hcd hg hm hgV hmV).imp fun D σ H h => ?_
  obtain ⟨g, F, e, rt, l, h⟩ := h
  refine ⟨g, F, e, rt, l, ?_⟩
  unfold sTry2 at h
  cases q : m e with
  | nx e1 => rw [q] at h; exact h
  | bk e1 => rw [q] at h; exact h
  | ct e1 => rw [q] at h; exact h
  | rt d e1 => rw [q] at h; exact h
  | stk => rw [q] at h; exact h
  | exc c fs =>
    rw [q] at h
    split at h
    · rename_i heq; cases heq
      rename_i f d
      split at h
      · rename_i hc2
        obtain ⟨hcs, rfl, hie⟩ := hc2
        obtain ⟨C', hC', XI, xm, kV, kall⟩ := T c hcs
        intro σ1 hl1 C a σ' H' F' vs hC hl hs2 fr hx rx
        have eC : C' = C := by
          rw [show X.mg _ = some (.ref C) from hC] at hC'
          cases hC'
          rfl
        subst eC
        obtain ⟨v, vs', rfl, rv, rvs⟩ : ∃ v vs', vs = v :: vs' ∧ Rep (kx X) F' d v ∧ vs' = [] := by
          simp only [List.map_cons, List.map_nil, RepL] at rx
          obtain ⟨v, w, e1, r1, e2⟩ := rx
          exact ⟨v, w, e1, r1, e2⟩
        subst rvs
        refine ⟨true, xm, fun _ a' na => ⟨_, a, _, decide (c = x), v, ?_, rfl, rfl, XI, hx, fun D hD => ?_, kV, ?_, fun t ht => ?_⟩, fun z => by cases z⟩
        · rw [List.getElem?_set_self]
          rw [hl, hl1]
          exact Nat.lt_of_lt_of_le hie l.len
        · obtain ⟨D', hD', k⟩ := kall x (.head _)
          rw [hD] at hD'; cases hD'
          exact k
        · rfl
        · have l0 : Rl (kx X) [] g F' mk (List.replicate e.length Option.none) (fun _ => []) σ' H' := rl_blank fr (by rw [hl, hl1]; exact l.len)
          exact (l0.pureK (z := .tup [.bl (decide (c = x)), d]) fun v H2 r => h v σ' H2 (by rw [hl, hl1]) (.res ((r.mono hs2).flatK rfl))).tup l0.fr.sub ht (.cons Rep.bl (.cons rv .nil))
      · exact h.elim
    · exact h.elim
    · rename_i h1 h2
      exact absurd rfl (h2 _ _)
end
/-! ### what is left to show -/
section
variable {K : D → Env3 → Prop} {Y : KX} {e : Env3} {m : M D} {ms : M (List D)} {k : Kt} {os : List Op3} {den : List D → FR}
theorem Ok_CallB : Ok (mCallB os den ms e) K Y = Ok (ms e) (fun ds e1 => Op (opds os ds e1) fun xs => OkF (den xs) (fun d => flatB d = true ∧ K d e1) (fun _ _ => False)) Y := by
  unfold mCallB
  rw [Ok_bind]; refine Ok_ext fun ds e1 => ?_
  cases opds os ds e1 with
  | none => rfl
  | some xs =>
    show Ok (match den xs with | .ok d => if flatB d = true then R.ok d e1 else R.stk | _ => R.stk) K Y = OkF (den xs) _ _
    cases den xs with
    | ok d =>
      show Ok (if flatB d = true then R.ok d e1 else R.stk) K Y = (flatB d = true ∧ K d e1)
      by_cases h : flatB d = true
      · rw [if_pos h]; simp [h, Ok]
      · rw [if_neg h]; simp [h, Ok]
    | _ => rfl
/-- a told list with a list in its first place -/
def OpG (o : Option (Option D)) (K : List D → Prop) (_t : Tg K := .mk) : Prop := match o with
  | some (some (D.lst (D.lst xs :: _))) => K xs
  | _ => False
theorem OpG_lst {xs r : List D} {K : List D → Prop} : OpG (some (some (.lst (.lst xs :: r)))) K = K xs := rfl
theorem Po_Gst {i : Nat} : Po (sGst i e) k = OpG e[i]? fun xs => xs.length < sizeLine ∧ k.nx (e.set i Option.none) := by
  unfold sGst
  split
  · rename_i xs r he
    rw [he, OpG_lst]
    by_cases h : xs.length < sizeLine
    · rw [if_pos h]; simp [h, Po]
    · rw [if_neg h]; simp [h, Po]
  · rename_i hne
    unfold OpG
    split
    · rename_i xs r he
      exact absurd he (hne xs r)
    · rfl
def OpF (d : D) (K : D → Prop) (_t : Tg K := .mk) : Prop := match d with
  | .lst _ => False
  | .dic _ _ => False
  | .ins _ _ _ => False
  | d => K d
theorem OpF_int {i : Int} {K : D → Prop} : OpF (.int i) K = K (.int i) := rfl
theorem OpF_bl {i : Bool} {K : D → Prop} : OpF (.bl i) K = K (.bl i) := rfl
theorem OpF_str {i : List Nat} {K : D → Prop} : OpF (.str i) K = K (.str i) := rfl
theorem OpF_non {K : D → Prop} : OpF .non K = K .non := rfl
theorem OpF_tup {i : List D} {K : D → Prop} : OpF (.tup i) K = K (.tup i) := rfl
theorem Ok_Flat : Ok (mFlat m e) K Y = Ok (m e) (fun d e1 => OpF d fun d => K d e1) Y := by
  unfold mFlat
  rw [Ok_bind]; refine Ok_ext fun d e1 => ?_
  cases d <;> rfl
theorem Po_Try2 {i : Nat} {cs : List Str} {x : Str} {m : M3} {e : Env3} {k : Kt} : Po (sTry2 i cs x m e) k = Po (m e) (k.tr fun c fs => OpX fs fun f d => c ∈ cs ∧ f = ("value" : Str) ∧ i < e.length ∧ k.rt (.tup [.bl (decide (c = x)), d]) (List.replicate e.length Option.none)) := by
  unfold sTry2
  cases m e with
  | exc c fs =>
    cases fs with
    | nil => rfl
    | cons p r =>
      obtain ⟨f, d⟩ := p
      cases r with
      | nil =>
        show Po (if c ∈ cs ∧ f = ("value" : Str) ∧ i < e.length then _ else _) k = (c ∈ cs ∧ f = ("value" : Str) ∧ i < e.length ∧ _)
        by_cases h : c ∈ cs ∧ f = ("value" : Str) ∧ i < e.length
        · rw [if_pos h]; obtain ⟨h1, h2, h3⟩ := h; simp only [h1, h2, h3, true_and]; rfl
        · rw [if_neg h]
          refine (propext ⟨fun z => z.elim, fun z => h ⟨z.1, z.2.1, z.2.2.1⟩⟩)
      | cons q r => rfl
  | _ => rfl
end
end L3

noncomputable section
/-! # L3Z: several names at once: three of them, one of them own -/
namespace L3
open PySem PySem.Spec L2
open PyProof.Rows hiding St
section
variable {X : Cx} {io : List Nat} {E : WX} {mk : List Kd} {kr : Kd} {W : Kx} {g : Gh} {F F' H H' : Hp} {rt : Nat → List Addr} {σ : St}
/-- a, b, c = x, y, z of three local names -/
def sPar3 (i j l : Nat) (ms : M (List L3.D)) : M3 := fun e => (ms e).st fun ds e1 => match ds with
  | [a, b, c] => .nx (((e1.set i (some a)).set j (some b)).set l (some c))
  | _ => .stk
theorem sv_par3 (i j l : Nat) {x y z : Str} {a b c : Expr} {ms : M (List L3.D)} {os : List Op3} {px py pz pt pos : Pos} {kt k2 pt2} (hc : X.calm = true) (ha : AV X io E mk [a, b, c] ms os) (hw : swappedStores [.Tuple [.Name x px, .Name y py, .Name z pz] kt pt] (.Tuple [a, b, c] k2 pt2) X.env = pure (some [x, y, z]) := by rfl)
    (ho : allEx os = true := by rfl) (hk1 : mk.getD i .fr = .fr := by rfl) (hk2 : mk.getD j .fr = .fr := by rfl) (hk3 : mk.getD l .fr = .fr := by rfl) (hi1 : i ∉ io := by decide) (hi2 : j ∉ io := by decide) (hi3 : l ∉ io := by decide) (hij : i ≠ j := by decide) (hil : i ≠ l := by decide) (hjl : j ≠ l := by decide) (hN : X.N.Nodup := by assumption) (hx : X.N[i]? = some x := by rfl) (hy : X.N[j]? = some y := by rfl) (hz : X.N[l]? = some z := by rfl)
    (lx : X.env.scope.names.lookup x = some .local := by rfl) (ly : X.env.scope.names.lookup y = some .local := by rfl) (lz : X.env.scope.names.lookup z = some .local := by rfl) (hs : swapsWithSole [.Tuple [.Name x px, .Name y py, .Name z pz] kt pt] (.Tuple [a, b, c] k2 pt2) pos.line X.env = pure false := by rfl) :
    SV X io E mk kr (.Assign [.Tuple [.Name x px, .Name y py, .Name z pz] kt pt] (.Tuple [a, b, c] k2 pt2) pos) (sPar3 i j l ms) := (ps_par3 hc hN hx hy hz hij hil hjl lx ly lz ha hw hs).imp fun D σ H h => by
  obtain ⟨g, F, e, rt, ll, h⟩ := h
  refine ⟨g, F, e, rt, ll, ?_⟩
  unfold sPar3 at h
  cases q : ms e with
  | exc c fs => rw [q] at h; exact h σ rfl
  | stk => rw [q] at h; exact h
  | ok ds e1 =>
    rw [q] at h
    intro vs F1 rt1 H1 s1 l1 a1
    have r := atOs_ex a1 ho
    simp only [R.st_ok] at h
    match ds, h, r with
    | [d1, d2, d3], h, r =>
      simp only [RepL] at r
      obtain ⟨v1, w1, e1, r1, v2, w2, e2, r2, v3, w3, e3, r3, e4⟩ := r
      subst e4 e3 e2 e1
      refine ⟨v1, v2, v3, rfl, ?_⟩
      obtain ⟨rt2, l2⟩ := l1.set (i := i) (d := d1) (v := v1) (rs := []) hi1 (by rw [hk1]; exact ⟨r1, rfl⟩) .nil (fun p hp => by cases hp)
      obtain ⟨rt3, l3⟩ := l2.set (i := j) (d := d2) (v := v2) (rs := []) hi2 (by rw [hk2]; exact ⟨r2, rfl⟩) .nil (fun p hp => by cases hp)
      obtain ⟨rt4, l4⟩ := l3.set (i := l) (d := d3) (v := v3) (rs := []) hi3 (by rw [hk3]; exact ⟨r3, rfl⟩) .nil (fun p hp => by cases hp)
      exact h _ F1 rt4 H1 (by simp) s1 l4
    | [], h, _ => exact h.elim
    | [_], h, _ => exact h.elim
    | [_, _], h, _ => exact h.elim
    | _ :: _ :: _ :: _ :: _, h, _ => exact h.elim
/-- a, b = x, y: the second is own -/
theorem sv_parK (i j : Nat) {k : Kd} {x y : Str} {a b : Expr} {m1 m2 : M L3.D} {px py pt pos : Pos} {kt k2 pt2} (hc : X.calm = true) (ha : OV X io E mk a m1 .ex) (hb : EV X io E mk b m2 k) (hw : swappedStores [.Tuple [.Name x px, .Name y py] kt pt] (.Tuple [a, b] k2 pt2) X.env = pure (some [x, y]) := by rfl)
    (hk1 : mk.getD i .fr = .fr := by rfl) (hk2 : mk.getD j .fr = k := by rfl) (hi1 : i ∉ io := by decide) (hi2 : j ∉ io := by decide) (hij : i ≠ j := by decide) (hN : X.N.Nodup := by assumption) (hx : X.N[i]? = some x := by rfl) (hy : X.N[j]? = some y := by rfl)
    (lx : X.env.scope.names.lookup x = some .local := by rfl) (ly : X.env.scope.names.lookup y = some .local := by rfl) (hs : swapsWithSole [.Tuple [.Name x px, .Name y py] kt pt] (.Tuple [a, b] k2 pt2) pos.line X.env = pure false := by rfl)
    (hs1 : starEach [a, b] X.env = (false, eval a X.env) :: starEach [b] X.env := by rfl) (hs2 : starEach [b] X.env = (false, eval b X.env) :: starEach [] X.env := by rfl) :
    SV X io E mk kr (.Assign [.Tuple [.Name x px, .Name y py] kt pt] (.Tuple [a, b] k2 pt2) pos) (sPar i j (mCons m1 (mCons m2 mNil))) := (ps_par hc hN hx hy hij lx ly (pa_cons ha (pa_cons hb pa_nil hs2) hs1) hw hs).imp fun D σ H h => by
  obtain ⟨g, F, e, rt, l, h⟩ := h
  refine ⟨g, F, e, rt, l, ?_⟩
  unfold sPar mCons mNil at h
  cases q : m1 e with
  | exc c fs => rw [q] at h; exact h σ rfl
  | stk => rw [q] at h; exact h
  | ok d1 e1 =>
    rw [q] at h
    rintro v1 H1 ⟨F1, rt1, s1, l1, a1⟩
    simp only [R.bind_ok] at h
    refine ⟨g, F1, e1, rt1, l1, ?_⟩
    cases q2 : m2 e1 with
    | exc c fs => rw [q2] at h; exact Exq.mono s1 (h σ rfl)
    | stk => rw [q2] at h; exact h
    | ok d2 e2 =>
      rw [q2] at h
      simp only [R.bind_ok, R.st_ok] at h
      intro v2 H2 r
      obtain ⟨F2, rt2, rs, s2, l2, k2, n2, o2⟩ := r.ex
      refine ⟨v1, v2, rfl, ?_⟩
      have r1 : Rep (kx X) F2 d1 v1 := Rep.mono s2 a1
      obtain ⟨rt3, l3⟩ := l2.set (i := j) hi2 (by rw [hk2]; exact k2) n2 o2
      obtain ⟨rt4, l4⟩ := l3.set (i := i) (d := d1) (v := v1) (rs := []) hi1 (by rw [hk1]; exact ⟨r1, rfl⟩) .nil (fun p hp => by cases hp)
      rw [List.set_comm (some d2) (some d1) (Ne.symm hij), List.set_comm (some v2) (some v1) (Ne.symm hij)] at l4
      exact h _ F2 rt4 H2 (by simp) (s1.trans s2) l4
/-- a, b = x, 7: the first is own -/
theorem sv_parC (i j : Nat) {k : Kd} {n : Int} {x y : Str} {a : Expr} {m1 : M L3.D} {px py pt pos p7 : Pos} {kt k2 pt2 k7} (hc : X.calm = true) (ha : EV X io E mk a m1 k) (hw : swappedStores [.Tuple [.Name x px, .Name y py] kt pt] (.Tuple [a, .Constant (.int n) k7 p7] k2 pt2) X.env = pure (some [x, y]) := by rfl)
    (hk1 : mk.getD i .fr = k := by rfl) (hk2 : mk.getD j .fr = .fr := by rfl) (hi1 : i ∉ io := by decide) (hi2 : j ∉ io := by decide) (hij : i ≠ j := by decide) (hN : X.N.Nodup := by assumption) (hx : X.N[i]? = some x := by rfl) (hy : X.N[j]? = some y := by rfl)
    (lx : X.env.scope.names.lookup x = some .local := by rfl) (ly : X.env.scope.names.lookup y = some .local := by rfl) (hs : swapsWithSole [.Tuple [.Name x px, .Name y py] kt pt] (.Tuple [a, .Constant (.int n) k7 p7] k2 pt2) pos.line X.env = pure false := by rfl)
    (hs1 : starEach [a, .Constant (.int n) k7 p7] X.env = (false, eval a X.env) :: starEach [.Constant (.int n) k7 p7] X.env := by rfl) (hs2 : starEach [.Constant (.int n) k7 p7] X.env = (false, eval (.Constant (.int n) k7 p7) X.env) :: starEach [] X.env := by rfl) :
    SV X io E mk kr (.Assign [.Tuple [.Name x px, .Name y py] kt pt] (.Tuple [a, .Constant (.int n) k7 p7] k2 pt2) pos) (sPar i j (mCons m1 (mCons (mC (.int n)) mNil))) := (ps_par hc hN hx hy hij lx ly (pa_cons ha (pa_cons pe_int pa_nil hs2) hs1) hw hs).imp fun D σ H h => by
  obtain ⟨g, F, e, rt, l, h⟩ := h
  refine ⟨g, F, e, rt, l, ?_⟩
  unfold sPar mCons mNil mC at h
  cases q : m1 e with
  | exc c fs => rw [q] at h; exact h σ rfl
  | stk => rw [q] at h; exact h
  | ok d1 e1 =>
    rw [q] at h
    simp only [R.bind_ok, R.st_ok] at h
    intro v1 H1 r
    obtain ⟨F1, rt1, rs, s1, l1, k1, n1, o1⟩ := r.ex
    refine ⟨v1, .int n, rfl, ?_⟩
    obtain ⟨rt2, l2⟩ := l1.set (i := i) hi1 (by rw [hk1]; exact k1) n1 o1
    obtain ⟨rt3, l3⟩ := l2.set (i := j) (d := .int n) (v := .int n) (rs := []) hi2 (by rw [hk2]; exact ⟨Rep.int, rfl⟩) .nil (fun p hp => by cases hp)
    exact h _ F1 rt3 H1 (by simp) s1 l3
/-- a, b = x, y by a tuple that is built: the second is own -/
theorem sv_parU (i j : Nat) {k : Kd} {x y : Str} {a b : Expr} {m1 m2 : M L3.D} {px py pt pos : Pos} {kt k2 pt2} (hc : X.calm = true) (ha : OV X io E mk a m1 .ex) (hb : EV X io E mk b m2 k) (hw : swappedStores [.Tuple [.Name x px, .Name y py] kt pt] (.Tuple [a, b] k2 pt2) X.env = pure none := by rfl)
    (hk1 : mk.getD i .fr = .fr := by rfl) (hk2 : mk.getD j .fr = k := by rfl) (hi1 : i ∉ io := by decide) (hi2 : j ∉ io := by decide) (hij : i ≠ j := by decide) (hN : X.N.Nodup := by assumption) (hx : X.N[i]? = some x := by rfl) (hy : X.N[j]? = some y := by rfl)
    (lx : Loc X.env.scope x := by first | exact Or.inl rfl | exact Or.inr rfl) (ly : Loc X.env.scope y := by first | exact Or.inl rfl | exact Or.inr rfl) (fx : X.fn x = true ∨ X.env.scope.names.lookup x = some .local := by first | exact .inl rfl | exact .inr rfl) (fy : X.fn y = true ∨ X.env.scope.names.lookup y = some .local := by first | exact .inl rfl | exact .inr rfl)
    (hs : swapsWithSole [.Tuple [.Name x px, .Name y py] kt pt] (.Tuple [a, b] k2 pt2) pos.line X.env = pure false := by rfl)
    (hs1 : starEach [a, b] X.env = (false, eval a X.env) :: starEach [b] X.env := by rfl) (hs2 : starEach [b] X.env = (false, eval b X.env) :: starEach [] X.env := by rfl)
    (hn : (assignEach [.Name x px, .Name y py] X.env).length = 2 := by rfl) (hst : (assignEach [.Name x px, .Name y py] X.env).findIdx? (·.1) = none := by rfl)
    (t1 : (assignEach [.Name x px, .Name y py] X.env).map (·.2) = assign (.Name x px) X.env :: (assignEach [.Name y py] X.env).map (·.2) := by rfl) (t2 : (assignEach [.Name y py] X.env).map (·.2) = assign (.Name y py) X.env :: (assignEach [] X.env).map (·.2) := by rfl)
    (h1 : (assignEach [.Tuple [.Name x px, .Name y py] kt pt] X.env).map (·.2) = [assign (.Tuple [.Name x px, .Name y py] kt pt) X.env] := by rfl) :
    SV X io E mk kr (.Assign [.Tuple [.Name x px, .Name y py] kt pt] (.Tuple [a, b] k2 pt2) pos) (sPar i j (mCons m1 (mCons m2 mNil))) :=
  (ps_asg (pe_tup (pa_cons ha (pa_cons hb pa_nil hs2) hs1)) (pg_tup hc (pgs_cons (pg_name hN hx lx fx) (pgs_cons (pg_name hN hy ly fy) pgs_nil t2) t1) hn hst) hs hw h1).imp fun D σ H h => by
  obtain ⟨g, F, e, rt, l, h⟩ := h
  refine ⟨g, F, e, rt, l, ?_⟩
  unfold sPar mCons mNil at h
  cases q : m1 e with
  | exc c fs => rw [q] at h; exact h σ rfl
  | stk => rw [q] at h; exact h
  | ok d1 e1 =>
    rw [q] at h
    rintro v1 H1 ⟨F1, rt1, s1, l1, a1⟩
    simp only [R.bind_ok] at h
    refine ⟨g, F1, e1, rt1, l1, ?_⟩
    cases q2 : m2 e1 with
    | exc c fs => rw [q2] at h; exact Exq.mono s1 (h σ rfl)
    | stk => rw [q2] at h; exact h
    | ok d2 e2 =>
      rw [q2] at h
      simp only [R.bind_ok, R.st_ok] at h
      intro v2 H2 r
      obtain ⟨F2, rt2, rs, s2, l2, k2, n2, o2⟩ := r.ex
      refine ⟨by show 2 ≤ sizeLine; decide, fun p hp => ?_⟩
      have r1 : Rep (kx X) F2 d1 v1 := Rep.mono s2 a1
      have hne : ∀ b, H2 b ≠ Option.none → b ≠ p := fun b hb z => hb (z ▸ hp)
      have own : ∀ q, q ∈ rs → upd H2 p (.tup [v1, v2]) q = H2 q ∧ F2 q = Option.none := fun q hq => by
        obtain ⟨z1, z2, z3⟩ := k2.none q hq
        exact ⟨upd_ne (hne q (by rw [z3]; simp)), z1⟩
      have l2' : Rl (kx X) io g F2 mk e2 rt2 σ (upd H2 p (.tup [v1, v2])) := l2.grow (Same.refl _) (l2.fr.fresh hp) fun i q hq => by
        obtain ⟨z1, z2, z3⟩ := l2.none hq
        exact ⟨upd_ne (hne q (by rw [z3]; simp)), z1⟩
      refine ⟨p, [v1, v2], rfl, .inl (Rd.of upd_same), rfl, v1, [v2], rfl, v2, [], rfl, rfl, ?_⟩
      obtain ⟨rt3, l3⟩ := l2'.set (i := j) hi2 (by rw [hk2]; exact k2.frame (Same.refl _) own) n2 o2
      obtain ⟨rt4, l4⟩ := l3.set (i := i) (d := d1) (v := v1) (rs := []) hi1 (by rw [hk1]; exact ⟨r1, rfl⟩) .nil (fun p hp => by cases hp)
      rw [List.set_comm (some d2) (some d1) (Ne.symm hij), List.set_comm (some v2) (some v1) (Ne.symm hij)] at l4
      exact h _ F2 rt4 _ (by simp) (s1.trans s2) l4
theorem Po_Par3 {i j l : Nat} {ms : M (List L3.D)} {e : Env3} {k : Kt} : Po (sPar3 i j l ms e) k = Ok (ms e) (fun ds e1 => Op (match ds with | [a, b, c] => some (a, b, c) | _ => none) fun p => k.nx (((e1.set i (some p.1)).set j (some p.2.1)).set l (some p.2.2))) k.ex := by
  unfold sPar3; rw [Po_st]; refine Ok_ext fun ds e1 => ?_
  match ds with
  | [] => rfl
  | [_] => rfl
  | [_, _] => rfl
  | [_, _, _] => rfl
  | _ :: _ :: _ :: _ :: _ => rfl
end

/-! ### list(x) of a text, too -/
def rListS : List V → Hp → VK → Prop := fun xs H Q => ∃ x : Str, xs = [.str x] ∧ x.cps.size ≤ sizeLine ∧ ∀ q, H q = none → Q (.ref q) (upd H q (.lst (x.cps.toList.map fun c => V.str ⟨#[c]⟩)))
theorem call_listS {X : Cx} (hc : X.calm = true) : CallR X (.type "list") rListS := by
  intro pins s σ H xs us Q I r h
  obtain ⟨x, e, hz, q⟩ := h
  subst e
  obtain ⟨u, eu, rx⟩ := vals1 r
  subst eu
  obtain ⟨t, rfl⟩ := rx
  refine call_list_str (I.ok.hd hc) x t (fun h' tk acc' c' hkeep hS hacc => ?_) hz
  refine ⟨.ref s.heap.objs.size, upd H s.heap.objs.size (.lst (x.cps.toList.map fun c => V.str ⟨#[c]⟩)), I.laid hkeep (Nat.le_refl _) (show ObjOk X.prog X.w _ _ _ (.lst (x.cps.toList.map fun c => V.str ⟨#[c]⟩)) from ⟨?_, acc'.toList, c', ?_, ?_⟩), rfl, q _ (I.hok.fresh (Nat.le_refl _))⟩
  · rw [List.length_map, Array.length_toList]; exact hz
  · have el : acc'.toList.length = acc'.size := by simp
    refine vals_of_at (by rw [List.length_map, Array.length_toList, el, hacc.1]) fun j y w h1 h2 => ?_
    have h3 := hacc.2 j w (by rw [← Array.getElem?_toList]; exact h2)
    rw [List.getElem?_map] at h1
    obtain ⟨c, hc, rfl⟩ := Option.map_eq_some_iff.mp h1
    obtain ⟨c2, t2, e2, e3⟩ := h3
    have e4 : x.cps[j]? = some c := by rw [← Array.getElem?_toList]; exact hc
    rw [e2] at e4
    cases e4
    exact ⟨t2, e3⟩
  · rw [Array.toArray_toList]; exact hS
def rListT (K : PySem.W.Frag) : List V → Hp → VK → Prop := fun xs H Q => (∃ p ys, xs = [.ref p] ∧ (SqL K H p ys ∨ SqT K H p ys) ∧ ∀ l, H l = none → Q (.ref l) (upd H l (.lst ys))) ∨ rListS xs H Q
theorem call_listT {X : Cx} (hc : X.calm = true) : CallR X (.type "list") (rListT X.K) := by
  intro pins s σ H xs us Q I r h
  rcases h with h | h
  · exact call_listG pins s σ H xs us Q I r h
  · exact call_listS hc pins s σ H xs us Q I r h
def dItemsT : D → Option (List D)
  | .lst xs => some xs
  | .tup xs => some xs
  | .str s => if s.length ≤ sizeLine then some (s.map fun c => .str [c]) else none
  | _ => none
theorem new_listT {X : Cx} : NewFn (kx X) (rListT X.K) (f1N dItemsT) := new1 fun F H d zs v Q hs r hf hq => by
  cases d <;> simp only [dItemsT, reduceCtorEq, Option.some.injEq] at hf
  · rename_i s
    split at hf
    · rename_i hz
      simp only [Option.some.injEq] at hf
      subst hf
      refine .inr ⟨S s, by rw [r.str], by simpa [S] using hz, fun q hp => ?_⟩
      have e : (S s).cps.toList = s := by simp [S]
      rw [e]
      refine hq q _ hp ?_
      have go : ∀ l : List Nat, RepL (kx X) F (l.map fun c => D.str [c]) (l.map fun c => V.str ⟨#[c]⟩) := by
        intro l
        induction l with
        | nil => exact .nil
        | cons c r ih => exact .cons (show Rep _ _ _ _ from Rep.str (b := [c])) ih
      exact go s
    · cases hf
  · subst hf
    obtain ⟨a, vs, e, q, l⟩ := rep_tup.mp r.tupR
    exact .inl ⟨a, vs, by rw [e], .inr (sqT_mono hs q), fun l' hl => hq l' vs hl l⟩
  · subst hf
    obtain ⟨a, vs, e, q, l⟩ := r.lst hs
    exact .inl ⟨a, vs, by rw [e], .inl (SqL.of q), fun l' hl => hq l' vs hl l⟩

/-! ### list(range(n)) -/
def mListRg (m : M D) : M D := fun e => (m e).bind fun d e1 => match d with
  | .int n => if 0 ≤ n ∧ n ≤ 16777216 then .ok (.lst (irange 0 n.toNat)) e1 else .stk
  | _ => .stk
theorem ev_listRg {X : Cx} {io : List Nat} {E : WX} {mk : List Kd} {x : Expr} {m : M D} {p1 p2 pos1 pos2 : Pos} (hc : X.calm = true) (hg : Gl X "list") (hm : X.mg "list" = none) (hg2 : Gl X "range") (hm2 : X.mg "range" = none) (he : EV X io E mk x m .fr)
    (na : starEach [x] X.env = (false, eval x X.env) :: starEach [] X.env := by rfl) (nb : starEach [.Call (.Name "range" p2) [x] [] pos2] X.env = (false, eval (.Call (.Name "range" p2) [x] [] pos2) X.env) :: starEach [] X.env := by rfl) :
    EV X io E mk (.Call (.Name "list" p1) [.Call (.Name "range" p2) [x] [] pos2] [] pos1) (mListRg m) (.own .fr) :=
  (pe_listRg hc hg hm (prg_1 hg2 hm2 he na) nb).imp fun σ H Q h => by
    obtain ⟨g, F, e, rt, l, h⟩ := h
    refine ⟨g, F, e, rt, l, ?_⟩
    unfold mListRg at h
    cases q : m e with
    | exc c fs => rw [q] at h; exact h
    | stk => rw [q] at h; exact h
    | ok d e1 =>
      rw [q] at h
      simp only [R.bind_ok] at h
      intro v H1 r
      obtain ⟨F1, rt1, rs, s1, l1, k1, n1, o1⟩ := r.ex
      cases d with
      | int n =>
        by_cases hn : 0 ≤ n ∧ n ≤ 16777216
        · simp only [if_pos hn] at h
          have hv : v = .int n := Rep.of_int k1.1
          refine ⟨n, hv, RgOk.of_le (by omega) hn.2 (by omega) hn.1, fun p hp => ?_⟩
          have e0 : rgV 0 n = (List.range n.toNat).map fun i => V.int (0 + (i : Nat)) := by unfold rgV; rw [Int.sub_zero]
          refine (l1.newK (zs := irange 0 n.toNat) fun v H' r => h v H' ?_) p (rgV 0 n) hp ?_
          · exact ⟨by
              obtain ⟨F2, rt2, rs2, s2, l2, z⟩ := r.ex
              exact ⟨F2, rt2, rs2, s1.trans s2, l2, z⟩⟩
          · rw [e0]
            unfold irange
            have go : ∀ l : List Nat, RepL (kx X) F1 (l.map fun i : Nat => D.int (0 + (i : Int))) (l.map fun i : Nat => V.int (0 + (i : Nat))) := by
              intro l
              induction l with
              | nil => exact .nil
              | cons c r ih => exact .cons Rep.int ih
            exact go _
        · simp only [if_neg hn] at h
      | _ => exact h.elim
theorem Ok_ListRg {m : M D} {e : Env3} {K : D → Env3 → Prop} {Y : KX} : Ok (mListRg m e) K Y = Ok (m e) (fun d e1 => Op (match d with | .int n => some n | _ => none) fun n => (0 ≤ n ∧ n ≤ 16777216) ∧ K (.lst (irange 0 n.toNat)) e1) Y := by
  unfold mListRg; rw [Ok_bind]; refine Ok_ext fun d e1 => ?_
  cases d with
  | int n =>
    by_cases hn : 0 ≤ n ∧ n ≤ 16777216
    · simp [hn, Ok, Op_some]
    · simp [hn, Ok, Op_some]
  | _ => rfl
/-! ### xs[::-1] of a list -/
theorem repL_app {W : Kx} {F : Hp} : ∀ {xs ys : List D} {vs ws : List V}, RepL W F xs vs → RepL W F ys ws → RepL W F (xs ++ ys) (vs ++ ws)
  | [], ys, vs, ws, h1, h2 => by rw [repL_nil] at h1; subst h1; exact h2
  | x :: xs, ys, vs, ws, h1, h2 => by
    simp only [RepL] at h1
    obtain ⟨v, w, e, r1, r2⟩ := h1
    subst e
    exact .cons r1 (repL_app r2 h2)
theorem repL_reverse {W : Kx} {F : Hp} : ∀ {xs : List D} {vs : List V}, RepL W F xs vs → RepL W F xs.reverse vs.reverse
  | [], vs, h => by rw [repL_nil] at h; subst h; exact .nil
  | x :: xs, vs, h => by
    simp only [RepL] at h
    obtain ⟨v, w, e, r1, r2⟩ := h
    subst e
    rw [List.reverse_cons, List.reverse_cons]
    exact repL_app (repL_reverse r2) (.cons r1 .nil)
def mRevL (m : M D) : M D := fun e => (m e).bind fun d e1 => match d with
  | .lst xs => .ok (.lst xs.reverse) e1
  | _ => .stk
theorem ev_revL {X : Cx} {io : List Nat} {E : WX} {mk : List Kd} {x : Expr} {m : M D} {k : Nat} {p1 p2 p3 pos : Pos} (he : EV X io E mk x m .fr) : EV X io E mk (.Subscript x (.Slice none none (some (.UnaryOp .USub (.Constant (.int 1) k p1) p2)) p3) pos) (mRevL m) (.own .fr) :=
  (pe_revL he).imp fun σ H Q h => by
    obtain ⟨g, F, e, rt, l, h⟩ := h
    refine ⟨g, F, e, rt, l, ?_⟩
    unfold mRevL at h
    cases q : m e with
    | exc c fs => rw [q] at h; exact h
    | stk => rw [q] at h; exact h
    | ok d e1 =>
      rw [q] at h
      simp only [R.bind_ok] at h
      intro v H1 r
      obtain ⟨F1, rt1, rs, s1, l1, k1, n1, o1⟩ := r.ex
      cases d with
      | lst xs =>
        have r1 : Rep (kx X) F1 (.lst xs) v := k1.1
        obtain ⟨a, vs, e0, hq, hr⟩ := (show RepT (kx X) F1 H1 (.lst xs) v from .inl r1).lst l1.fr.sub
        refine ⟨a, vs, e0, SqL.of hq, fun p hp => ?_⟩
        refine (l1.newK (zs := xs.reverse) fun v H' r => h v H' ?_) p vs.reverse hp ?_
        · exact ⟨by
            obtain ⟨F2, rt2, rs2, s2, l2, z⟩ := r.ex
            exact ⟨F2, rt2, rs2, s1.trans s2, l2, z⟩⟩
        · exact repL_reverse hr
      | _ => exact h.elim
theorem Ok_RevL {m : M D} {e : Env3} {K : D → Env3 → Prop} {Y : KX} : Ok (mRevL m e) K Y = Ok (m e) (fun d e1 => Op (match d with | .lst xs => some xs | _ => none) fun xs => K (.lst xs.reverse) e1) Y := by
  unfold mRevL; rw [Ok_bind]; refine Ok_ext fun d e1 => ?_
  cases d <;> rfl
end L3

noncomputable section
/-! # L4A: own things read as frozen ones; frozen things in own slots; tuples that have no dict; starred displays -/
namespace L3
open PySem PySem.Spec L2
open PyProof.Rows hiding St
section
variable {X : Cx} {io : List Nat} {E : WX} {mk : List Kd} {kr : Kd} {W : Kx} {g : Gh} {F F' H H' : Hp} {rt : Nat → List Addr} {σ : St}
theorem RepK.ofz {k : Kd} {d : D} {v : V} (r : Rep W F d v) : RepK W F H k (.fz d) v [] := by
  have r' : Rep W F (.fz d) v := by simp only [Rep]; exact r
  cases k with
  | fr => exact ⟨r', rfl⟩
  | own k => exact ⟨r', rfl⟩
  | obj => exact .inr ⟨rfl, r', rfl⟩
  | dct t => exact .inr ⟨rfl, r', rfl⟩
/-- the slot's own thing, frozen where it is -/
def mFrz (i : Nat) : M D := fun e => match e[i]? with
  | some (some d) => .ok d.un (e.set i (some (.fz d.un)))
  | _ => .stk
theorem Rl.frzSlot {e : Env3} {i : Nat} {d : D} {v : V} {G : Hp} (l : Rl W io g F mk e rt σ H) (hi : i ∉ io) (he : e[i]? = some (some d)) (hv : σ[i]? = some (some v)) (r : Rep W G d.un v) (hG : Same F G) (fr : Fr3 g G H) (out : ∀ j p, j ≠ i → p ∈ rt j → G p = Option.none) :
    Rl W io g G mk (e.set i (some (.fz d.un))) (fun j => if j = i then [] else rt j) σ H where
  fr := fr
  len := by rw [List.length_set]; exact l.len
  var := fun j d' h => by
    by_cases hj : j = i
    · subst hj
      rw [List.getElem?_set_self (List.getElem?_eq_some_iff.mp he).1] at h
      cases h
      refine ⟨v, hv, ?_⟩
      rw [if_pos rfl]
      exact RepK.ofz r
    · rw [List.getElem?_set_ne (Ne.symm hj)] at h
      obtain ⟨v', h1, k⟩ := l.var j d' h
      refine ⟨v', h1, ?_⟩
      rw [if_neg hj]
      exact k.frame hG fun p hp => ⟨rfl, out j p hj hp⟩
  emp := fun j h => by
    by_cases hj : j = i
    · rw [if_pos hj]
    · rw [if_neg hj]
      refine l.emp j fun d' z => h d' ?_
      rw [List.getElem?_set_ne (Ne.symm hj)]
      exact z
  nd := fun j => by
    by_cases hj : j = i
    · rw [if_pos hj]; exact .nil
    · rw [if_neg hj]; exact l.nd j
  dj := fun j k q hne h1 h2 => by
    by_cases hj : j = i
    · rw [if_pos hj] at h1; cases h1
    · by_cases hk : k = i
      · rw [if_pos hk] at h2; cases h2
      · rw [if_neg hj] at h1; rw [if_neg hk] at h2; exact l.dj j k q hne h1 h2
  own := fun j q h => by
    by_cases hj : j = i
    · rw [if_pos hj] at h; cases h
    · rw [if_neg hj] at h; exact l.own j q h
  pin := l.pin
theorem ev_frz (i : Nat) {x : Str} {pos : Pos} (hi : i ∉ io := by decide) (hz : (mk.getD i .fr).frz = true := by rfl) (hN : X.N[i]? = some x := by rfl) (hv : Vis X.env.scope x := by first | exact Or.inl rfl | exact Or.inr (Or.inl rfl) | exact Or.inr (Or.inr rfl)) (hd : (x == ("__debug__" : Str)) = false := by decide)
    (hcd : (x == ("__classdict__" : Str)) = false := by decide) : EV X io E mk (.Name x pos) (mFrz i) .fr := by
  refine (pe_var hN hv hd hcd).imp ?_
  rintro σ H Q ⟨g, F, e, rt, l, h⟩
  unfold mFrz at h
  cases h1 : e[i]? with
  | none => rw [h1] at h; exact h.elim
  | some o =>
    cases o with
    | none => rw [h1] at h; exact h.elim
    | some d =>
      rw [h1] at h
      obtain ⟨v, hv, k⟩ := l.var i d h1
      have hn : ∀ p ∈ rt i, F p = none := fun p hp => (l.none hp).1
      have hG := frz_of (H := H) hn
      have r : Rep (kx X) (L3.frz F H (rt i)) d.un v := rep_un.mp (RepK.toRep hG hz k fun p hp => frz_in hp)
      have fr := l.fr.freeze hn fun p hp => by
        rcases l.own i p hp with z | ⟨_, z | z⟩
        · exact .inl z
        · exact absurd z hi
        · exact .inr z
      exact ⟨v, hv, h v H (.fr1 hG (l.frzSlot hi h1 hv r hG fr fun j p hj hp => by
        rw [frz_out fun m => l.dj j i p hj hp m]
        exact (l.none hp).1) r)⟩
theorem Ok_Frz {i : Nat} {e : Env3} {K : D → Env3 → Prop} {Y : KX} : Ok (mFrz i e) K Y = Op (e[i]?).join fun d => K d.un (e.set i (some (.fz d.un))) := by
  unfold mFrz
  cases e[i]? with
  | none => rfl
  | some o => cases o <;> rfl
/-- a frozen thing for an own slot -/
def mFz (m : M D) : M D := fun e => (m e).bind fun d e1 => .ok (.fz d) e1
theorem EV.fzo {x : Expr} {m : M D} {k : Kd} (h : EV X io E mk x m .fr) : EV X io E mk x (mFz m) k := by
  refine PE.imp h ?_
  rintro σ H Q ⟨g, F, e, rt, l, h⟩
  refine ⟨g, F, e, rt, l, ?_⟩
  unfold mFz at h
  cases q : m e with
  | exc c fs => rw [q] at h; exact h
  | stk => rw [q] at h; exact h
  | ok d e1 =>
    rw [q] at h
    intro v H' r
    obtain ⟨F1, rt1, rs, h1, l1, k, n, o⟩ := r.ex
    exact h v H' ⟨F1, rt1, [], h1, l1, RepK.ofz k.1, .nil, fun p hp => by cases hp⟩
theorem Ok_Fz {m : M D} {e : Env3} {K : D → Env3 → Prop} {Y : KX} : Ok (mFz m e) K Y = Ok (m e) (fun d e1 => K (.fz d) e1) Y := by
  unfold mFz; rw [Ok_bind]; rfl
/-! ### tuples without a dict -/
def mUnd (m : M D) : M D := fun e => (m e).bind fun d e1 => match d with
  | .nd d => .ok (.tup d) e1
  | d => .ok d e1
theorem EV.und {x : Expr} {m : M D} (h : EV X io E mk x m .fr) : EV X io E mk x (mUnd m) .fr := by
  refine PE.imp h ?_
  rintro σ H Q ⟨g, F, e, rt, l, h⟩
  refine ⟨g, F, e, rt, l, ?_⟩
  unfold mUnd at h
  cases q : m e with
  | exc c fs => rw [q] at h; exact h
  | stk => rw [q] at h; exact h
  | ok d e1 =>
    rw [q] at h
    intro v H' r
    simp only [R.bind_ok] at h
    cases d with
    | nd d =>
      obtain ⟨F1, rt1, rs, h1, l1, k, n, o⟩ := r.ex
      have k1 := k.1
      simp only [Rep] at k1
      obtain ⟨a, ob, vs, ev, hf, _, hr⟩ := k1
      exact h v H' ⟨F1, rt1, rs, h1, l1, ⟨rep_tup.mpr ⟨a, vs, ev, .inl (.inr ⟨ob, hf⟩), hr⟩, k.2⟩, n, o⟩
    | _ => exact h v H' r
def D.unnd : D → D
  | .nd d => .tup d
  | d => d
theorem unnd_nd {d : List D} : (D.nd d).unnd = .tup d := rfl
theorem unnd_tup {d : List D} : (D.tup d).unnd = .tup d := rfl
theorem Ok_Und {m : M D} {e : Env3} {K : D → Env3 → Prop} {Y : KX} : Ok (mUnd m e) K Y = Ok (m e) (fun d e1 => K d.unnd e1) Y := by
  unfold mUnd; rw [Ok_bind]; refine Ok_ext fun d e1 => ?_; cases d <;> rfl
/-- tuple(xs) of a list: the new tuple, known -/
def rTupN (K : PySem.W.Frag) : List V → Hp → VK → Prop := fun xs H Q => ∃ p ys, xs = [.ref p] ∧ SqL K H p ys ∧ ∀ l o, H l = none → o.dict = none → Q (.ref l) (upd H l (.frz o (.tup ys)))
theorem call_tupN : CallR X (.type "tuple") (rTupN X.K) := by
  intro pins s σ H xs us Q I r h
  obtain ⟨p, ys, rfl, hq, q⟩ := h
  obtain ⟨u, rfl, rx⟩ := vals1 r
  cases rx
  obtain ⟨its, r', pl, hz⟩ := I.list hq
  have hln := r'.length
  refine call_tuple_list pl.isList (fun h' kp => ?_) (by simp only [List.size_toArray] <;> omega)
  have I1 : Inv X pins σ H { s with heap := h' } := I.kept (t' := s.toks) kp
  have nw : (h'.push { cls := .type "tuple", data := .seq its.toArray }).get? h'.objs.size = some { cls := .type "tuple", data := .seq its.toArray } := Heap.get?_push_size _ rfl
  refine ⟨.ref h'.objs.size, _, I1.laid (t' := s.toks) (fun b o e => Heap.get?_push_of_some _ e) (Nat.le_refl _) (show ObjOk X.prog X.w _ _ _ (.frz { cls := .type "tuple", data := .seq its.toArray } (.tup ys)) from ⟨nw, hz, its, r', IsTup.new _ _⟩), rfl, q _ _ (I1.hok.fresh (Nat.le_refl _)) rfl⟩
def dTupN : D → Option D
  | .lst xs => some (.nd xs)
  | _ => none
theorem pure_tupN : PureFn (kx X) (rTupN X.K) (f1 dTupN) := pure1 fun F H d z v Q hs r hf hq => by
  cases d <;> simp only [dTupN, reduceCtorEq, Option.some.injEq] at hf
  rename_i xs
  subst hf
  obtain ⟨a, vs, e, q, l⟩ := r.lst hs
  refine ⟨a, vs, by rw [e], SqL.of q, fun p o hp ho => ?_⟩
  have hF := fresh_F hs hp
  refine hq (.ref p) (upd F p (.frz o (.tup vs))) _ (sameUpd hF) (sameUpd2 hs) (sameUpd hp) (fun b hb => by rw [upd_ne (fun e => hb (by rw [e]; exact hp))]) ?_
  simp only [Rep]
  exact ⟨p, o, vs, rfl, upd_same, ho, l.mono (sameUpd hF)⟩
/-- t.index(x), t without a dict, of texts -/
def ndT : D → Option (List D)
  | .nd xs => some xs
  | _ => none
def dTIx : List D → D → Option D := fun xs y => match y with
  | .str z => (strsOf xs).bind fun ys => if z ∈ ys then some (.int (ys.idxOf z : Nat)) else none
  | _ => none
def mTIndex (ma mb : M D) : M D := fun e => (ma e).bind fun x e1 => match ndT x with
  | some xs => (mb e1).bind fun y e2 => .opt (dTIx xs y) e2
  | none => .stk
theorem Ok_TIndex {ma mb : M D} {e : Env3} {K : D → Env3 → Prop} {Y : KX} : Ok (mTIndex ma mb e) K Y = Ok (ma e) (fun x e1 => Op (ndT x) fun xs => Ok (mb e1) (fun y e2 => Op (dTIx xs y) fun z => K z e2) Y) Y := by
  unfold mTIndex
  rw [Ok_bind]
  refine Ok_ext fun x e1 => ?_
  cases ndT x with
  | none => rfl
  | some xs =>
    show Ok ((mb e1).bind _) K Y = Ok (mb e1) _ Y
    rw [Ok_bind]; refine Ok_ext fun y e2 => ?_; exact Ok_opt
def tNdIx (K : PySem.W.Frag) (to tx : TE) : TE := fun σ H Q => to σ H fun x H1 => (∃ p o ys, x = .ref p ∧ H1 p = some (.frz o (.tup ys)) ∧ o.dict = none) ∧ tx σ H1 fun y H2 =>
  ∃ p, ∃ ys : List Str, ∃ z j, x = .ref p ∧ y = .str z ∧ SqT K H2 p (ys.map V.str) ∧ ys[j]? = some z ∧ (∀ m, m < j → ys[m]? ≠ some z) ∧ Q (.int (j : Nat)) H2
theorem pe_ndIx {o e : Expr} {to tx : TE} {apos cpos : Pos} (ho : PE X o to) (ha : PE X e tx) (hbase : attributeBase o "index" X.env (eval o X.env) = eval o X.env := by rfl)
    (hfew : ((backTo cpos (starEach [e] X.env)).all (fun x => !x.1) && (backToKw cpos (keywordEach [] X.env)).all (fun x => x.1.isSome)
      && decide (([e] : List Expr).length + ([] : List Keyword).length + (if ([] : List Keyword).isEmpty then 0 else 1) < 30)) = true := by rfl)
    (hline : (apos.endLine == cpos.line) = true := by rfl) (hs : starEach [e] X.env = (false, eval e X.env) :: starEach [] X.env := by rfl) :
    PE X (.Call (.Attribute o "index" apos) [e] [] cpos) (tNdIx X.K to tx) := by
  refine ⟨fun pins s σ H Q I h => ?_⟩
  refine wpAny_Call_method_late hbase hfew hline rfl (thn (ho.run pins s σ H _ I h) fun v s1 ⟨x, H1, I1, r1, ⟨p, ob, ys, ex, hp, hd⟩, q1⟩ => ?_)
  subst ex
  cases r1
  obtain ⟨hg, _⟩ := (show ObjOk X.prog X.w H1 s1.heap p (.frz ob (.tup ys)) from I1.hok p _ hp)
  obtain ⟨its, _, ⟨o2, ho2, hc2, _⟩, _⟩ := I1.tuple (show SqT X.K H1 p ys from .inl (.inr ⟨ob, hp⟩))
  refine ⟨"tuple", "tuple.index", PySem.F.plainAttrs_tuple, PySem.F.slot_tuple_index, PySem.F.type_tuple_index, ⟨o2, ho2, hc2⟩, fun a ea => ?_, ?_⟩
  · cases ea
    exact ⟨ob, hg, hd⟩
  · have hA := (pa_cons ha pa_nil hs).run cpos pins s1 σ H1 (fun xs H2 => match xs with
      | [y] => ∃ p', ∃ ys : List Str, ∃ z j, V.ref p = .ref p' ∧ y = .str z ∧ SqT X.K H2 p' (ys.map V.str) ∧ ys[j]? = some z ∧ (∀ m, m < j → ys[m]? ≠ some z) ∧ Q (.int (j : Nat)) H2
      | _ => False) I1 q1
    rw [hs] at hA ⊢
    refine Calls.callWith_builtin (by rfl) (Calls.evalArgs_plain ?_)
    exact thn hA fun us s2 ⟨vs, H2, I2, r2, q2⟩ => by
      cases r2 with
      | nil => exact q2.elim
      | cons ra rb =>
        cases rb with
        | cons _ _ => exact q2.elim
        | nil =>
          obtain ⟨p', zs, z, j, ep, ey, hq2, hj, hno, q2⟩ := q2
          subst ey
          exact mt_tup_index pins s2 σ H2 (.ref p) _ _ _ Q I2 rfl (.cons ra .nil) ⟨p', zs, z, j, ep, rfl, hq2, hj, hno, q2⟩
theorem idx_get {α : Type} [BEq α] [LawfulBEq α] : ∀ {l : List α} {z : α}, z ∈ l → l[l.idxOf z]? = some z ∧ ∀ m, m < l.idxOf z → l[m]? ≠ some z
  | x :: l, z, h => by
    by_cases e : x = z
    · subst e
      rw [List.idxOf_cons_self]
      exact ⟨rfl, fun m hm => absurd hm (Nat.not_lt_zero _)⟩
    · have h' : z ∈ l := by
        rcases List.mem_cons.mp h with q | q
        · exact absurd q.symm e
        · exact q
      have e3 : (x == z) = false := beq_eq_false_iff_ne.mpr e
      have e2 : (x :: l).idxOf z = l.idxOf z + 1 := by rw [List.idxOf_cons, e3]; rfl
      rw [e2]
      obtain ⟨a, b⟩ := idx_get h'
      refine ⟨a, fun m hm => ?_⟩
      cases m with
      | zero => intro q; exact e (Option.some.inj q)
      | succ m => exact b m (by omega)
theorem ev_tindex {o x : Expr} {mo m : M D} {apos cpos : Pos} (ho : EV X io E mk o mo .fr) (ha : EV X io E mk x m .fr) (hbase : attributeBase o "index" X.env (eval o X.env) = eval o X.env := by rfl)
    (hfew : ((backTo cpos (starEach [x] X.env)).all (fun x => !x.1) && (backToKw cpos (keywordEach [] X.env)).all (fun x => x.1.isSome)
      && decide (([x] : List Expr).length + ([] : List Keyword).length + (if ([] : List Keyword).isEmpty then 0 else 1) < 30)) = true := by rfl)
    (hline : (apos.endLine == cpos.line) = true := by rfl) (hs : starEach [x] X.env = (false, eval x X.env) :: starEach [] X.env := by rfl) : EV X io E mk (.Call (.Attribute o "index" apos) [x] [] cpos) (mTIndex mo m) .fr :=
  (pe_ndIx ho ha hbase hfew hline hs).imp fun σ H Q h => by
    obtain ⟨g, F, e, rt, l, h⟩ := h
    refine ⟨g, F, e, rt, l, ?_⟩
    unfold mTIndex at h
    cases q : mo e with
    | exc c fs => rw [q] at h; exact h
    | stk => rw [q] at h; exact h
    | ok d e1 =>
      rw [q] at h
      simp only [R.bind_ok] at h
      intro v H1 r
      obtain ⟨F1, rt1, rs, s1, l1, k1, n1, o1⟩ := r.ex
      cases d with
      | nd xs =>
        have k2 := k1.1
        simp only [Rep] at k2
        obtain ⟨a, ob, vs, ev, hf, hd, hr⟩ := k2
        subst ev
        refine ⟨⟨a, ob, _, rfl, l1.fr.sub _ _ hf, hd⟩, g, F1, e1, rt1, l1, ?_⟩
        simp only [ndT] at h
        cases q2 : m e1 with
        | exc c fs => rw [q2] at h; exact Exq.mono s1 h
        | stk => rw [q2] at h; exact h
        | ok y e2 =>
          rw [q2] at h
          intro v2 H2 r2
          obtain ⟨F2, rt2, rs2, s2, l2, k2, n2, o2⟩ := r2.ex
          simp only [R.bind_ok] at h
          cases y with
          | str z =>
            simp only [dTIx] at h
            cases q3 : strsOf xs with
            | none => rw [q3] at h; exact h.elim
            | some ys =>
              rw [q3] at h
              simp only [Option.bind_some] at h
              by_cases hz : z ∈ ys
              · rw [if_pos hz] at h
                have e3 := strsOf_h q3 hr
                obtain ⟨i1, i2⟩ := idx_get hz
                refine ⟨a, ys.map S, S z, ys.idxOf z, rfl, Rep.of_str k2.1, ?_, ?_, ?_, ?_⟩
                · have q5 : SqT (kx X).K H2 a vs := .inl (.inr ⟨ob, l2.fr.sub _ _ (s2 _ _ hf)⟩)
                  rw [e3] at q5
                  rw [List.map_map]; exact q5
                · rw [List.getElem?_map, i1]; rfl
                · intro m hm hz2
                  rw [List.getElem?_map] at hz2
                  obtain ⟨w, hw, hw2⟩ := Option.map_eq_some_iff.mp hz2
                  exact i2 m hm (by rw [hw, S_inj.mp hw2])
                · exact h _ H2 ⟨F2, rt2, [], s1.trans s2, l2, ⟨Rep.int, rfl⟩, .nil, fun p hp => by cases hp⟩
              · rw [if_neg hz] at h; exact h.elim
          | _ => exact h.elim
      | _ => exact h.elim
/-! ### displays with starred things -/
def tAf (W : Kx) (io : List Nat) (E : WX) (mk : List Kd) (m : M (List D)) : TA := fun σ H Q =>
  ∃ g F e rt, Rl W io g F mk e rt σ H ∧ match m e with
    | .ok ds e' => ∀ vs F' rt' H', Same F F' → Rl W io g F' mk e' rt' σ H' → RepL W F' ds vs → Q vs H'
    | .exc c fs => Exq W g F E c fs σ
    | .stk => False
def AF (X : Cx) (io : List Nat) (E : WX) (mk : List Kd) (es : List Expr) (m : M (List D)) : Prop := PA X es (tAf (kx X) io E mk m)
theorem af_nil : AF X io E mk [] mNil := PA.imp pa_nil fun σ H Q h => by
  obtain ⟨g, F, e, rt, l, h⟩ := h
  exact h [] F rt H (Same.refl _) l .nil
theorem af_cons {x : Expr} {xs : List Expr} {m : M D} {ms : M (List D)} (ha : EV X io E mk x m .fr) (hr : AF X io E mk xs ms) (hs : starEach (x :: xs) X.env = (false, eval x X.env) :: starEach xs X.env := by rfl) : AF X io E mk (x :: xs) (mCons m ms) := (pa_cons ha hr hs).imp fun σ H Q h => by
  obtain ⟨g, F, e, rt, l, h⟩ := h
  refine ⟨g, F, e, rt, l, ?_⟩
  unfold mCons at h
  cases q : m e with
  | exc c fs => rw [q] at h; exact h
  | stk => rw [q] at h; exact h
  | ok d e1 =>
    rw [q] at h
    intro v H1 r
    obtain ⟨F1, rt1, rs, s1, l1, k1, n1, o1⟩ := r.ex
    simp only [R.bind_ok] at h
    refine ⟨g, F1, e1, rt1, l1, ?_⟩
    cases q2 : ms e1 with
    | exc c fs => rw [q2] at h; exact Exq.mono s1 h
    | stk => rw [q2] at h; exact h
    | ok ds e2 =>
      rw [q2] at h
      intro vs F2 rt2 H2 s2 l2 a2
      exact h (v :: vs) F2 rt2 H2 (s1.trans s2) l2 (.cons (k1.1.mono s2) a2)
def itemsS : D → Option (List D)
  | .lst xs => some xs
  | .tup xs => some xs
  | _ => none
def mStarC (m : M D) (ms : M (List D)) : M (List D) := fun e => (m e).bind fun d e1 => match itemsS d with
  | some xs => (ms e1).bind fun ds e2 => .ok (xs ++ ds) e2
  | none => .stk
theorem af_star {x : Expr} {xs : List Expr} {m : M D} {ms : M (List D)} {p : Pos} (ha : EV X io E mk x m .fr) (hr : AF X io E mk xs ms) (hs : starEach (.Starred x p :: xs) X.env = (true, eval x X.env) :: starEach xs X.env := by rfl) : AF X io E mk (.Starred x p :: xs) (mStarC m ms) := (StX.pa_star ha hr hs).imp fun σ H Q h => by
  obtain ⟨g, F, e, rt, l, h⟩ := h
  refine ⟨g, F, e, rt, l, ?_⟩
  unfold mStarC at h
  cases q : m e with
  | exc c fs => rw [q] at h; exact h
  | stk => rw [q] at h; exact h
  | ok d e1 =>
    rw [q] at h
    intro v H1 r
    obtain ⟨F1, rt1, rs, s1, l1, k1, n1, o1⟩ := r.ex
    simp only [R.bind_ok] at h
    have go : ∀ (ds0 : List D) (vs0 : List V), itemsS d = some ds0 → RepL (kx X) F1 ds0 vs0 → tAf (kx X) io E mk ms σ H1 (fun vs H2 => Q (vs0 ++ vs) H2) := fun ds0 vs0 hi hr0 => by
      rw [hi] at h
      dsimp only at h
      refine ⟨g, F1, e1, rt1, l1, ?_⟩
      cases q2 : ms e1 with
      | exc c fs => rw [q2] at h; exact Exq.mono s1 h
      | stk => rw [q2] at h; exact h
      | ok ds e2 =>
        rw [q2] at h
        intro vs F2 rt2 H2 s2 l2 a2
        exact h (vs0 ++ vs) F2 rt2 H2 (s1.trans s2) l2 ((hr0.mono s2).append a2)
    cases d with
    | lst ys =>
      obtain ⟨a, vs, ev, hq, hr0⟩ := rep_lst.mp k1.1
      exact ⟨a, vs, ev, .inr (SqL.of (l1.fr.sub _ _ hq)), go ys vs rfl hr0⟩
    | tup ys =>
      obtain ⟨a, vs, ev, hq, hr0⟩ := rep_tup.mp k1.1
      exact ⟨a, vs, ev, .inl (sqT_mono l1.fr.sub hq), go ys vs rfl hr0⟩
    | _ => exact h.elim
def mLstZ (ms : M (List D)) : M D := fun e => (ms e).bind fun ds e1 => if ds.length ≤ sizeLine then .ok (.lst ds) e1 else .stk
theorem ev_lstS {es : List Expr} {pos : Pos} {ms : M (List D)} (h : AF X io E mk es ms) : EV X io E mk (.List es pos) (mLstZ ms) (.own .fr) := (pe_lst h).imp fun σ H Q h => by
  obtain ⟨g, F, e, rt, l, h⟩ := h
  refine ⟨g, F, e, rt, l, ?_⟩
  unfold mLstZ at h
  cases q : ms e with
  | exc c fs => rw [q] at h; exact h
  | stk => rw [q] at h; exact h
  | ok ds e1 =>
    rw [q] at h
    intro vs F1 rt1 H1 s1 l1 a1
    simp only [R.bind_ok] at h
    by_cases hz : ds.length ≤ sizeLine
    · rw [if_pos hz] at h
      refine ⟨by rw [← a1.length]; exact hz, fun p hp => ?_⟩
      exact (l1.newK (zs := ds) fun v H' r => h v H' (r.mono s1)) p vs hp a1
    · rw [if_neg hz] at h; exact h.elim
theorem Ok_StarC {m : M D} {ms : M (List D)} {e : Env3} {K : List D → Env3 → Prop} {Y : KX} : Ok (mStarC m ms e) K Y = Ok (m e) (fun d e1 => Op (itemsS d) fun xs => Ok (ms e1) (fun ds e2 => K (xs ++ ds) e2) Y) Y := by
  unfold mStarC
  rw [Ok_bind]
  refine Ok_ext fun d e1 => ?_
  cases itemsS d with
  | none => rfl
  | some xs =>
    show Ok ((ms e1).bind _) K Y = Ok (ms e1) _ Y
    rw [Ok_bind]; rfl
theorem Ok_LstZ {ms : M (List D)} {e : Env3} {K : D → Env3 → Prop} {Y : KX} : Ok (mLstZ ms e) K Y = Ok (ms e) (fun ds e1 => ds.length ≤ sizeLine ∧ K (.lst ds) e1) Y := by
  unfold mLstZ; rw [Ok_bind]; refine Ok_ext fun ds e1 => ?_
  by_cases h : ds.length ≤ sizeLine
  · rw [if_pos h]; simp only [h, true_and]; rfl
  · rw [if_neg h]; simp only [h, false_and]; rfl
end
end L3

noncomputable section
/-! # L4B: repr of things that hold no own object -/
namespace L3
open PySem PySem.Spec L2
open PyProof.Rows hiding St
/-- how many signs repr shows at most -/
def rwS : D → Option Nat
  | .non => some 5
  | .bl _ => some 5
  | .int i => if i.natAbs < 1000000000000000000000000000000 then some 32 else none
  | .str s => if (s.all fun c => decide (c < 4294967296)) = true then some (10 * s.length + 2) else none
  | _ => none
def rwL (f : D → Option Nat) : List D → Option Nat
  | [] => some 0
  | d :: ds => (f d).bind fun a => (rwL f ds).bind fun b => some (a + b + 2)
def rwt : Nat → D → Option Nat
  | n + 1, .lst xs => (rwL (rwt n) xs).map (· + 3)
  | n + 1, .tup xs => (rwL (rwt n) xs).map (· + 3)
  | n + 1, .nd xs => (rwL (rwt n) xs).map (· + 3)
  | _ + 1, .dic ks xs => if simpleKs ks = true then (rwL rwS ks).bind fun a => (rwL rwS xs).bind fun b => some (a + b + 3) else none
  | _, d => rwS d
def pyS : D → PyData
  | .bl b => .bool b
  | .int i => .int i
  | .str s => .str (S s)
  | _ => .none
def pyR : Nat → D → PyData
  | n + 1, .lst xs => .list (xs.map (pyR n))
  | n + 1, .tup xs => .tuple (xs.map (pyR n))
  | n + 1, .nd xs => .tuple (xs.map (pyR n))
  | _ + 1, .dic ks xs => .dict ((ks.map pyS).zip (xs.map pyS))
  | _, d => pyS d
def rdeep : Nat := 12
def rmost : Nat := 1000000
/-- repr(x) -/
def dRepr : D → Option D := fun d => (rwt rdeep d).bind fun k => if k ≤ rmost then some (.str (pyR rdeep d).shown.cps.toList) else none
theorem int_len {i : Int} (h : i.natAbs < 1000000000000000000000000000000) : ((toString i : String) : Str).length ≤ 31 := by
  cases i with
  | ofNat n =>
    have := toString_length_le (v := Int.ofNat n) (Int.natCast_nonneg n) (k := 30) (by decide) (by
      have h' : n < 1000000000000000000000000000000 := h
      show ((n : Nat) : Int) < _
      omega)
    show (Str.ofString _).length ≤ 31
    omega
  | negSucc m =>
    have h' : m + 1 < 1000000000000000000000000000000 := h
    have := toString_length_le (v := ((m + 1 : Nat) : Int)) (by omega) (k := 30) (by decide) (by omega)
    show (Str.ofString (String.append "-" (Nat.repr (m + 1)))).length ≤ 31
    rw [PyProof.Rows.ofString_length] at this ⊢
    have e : toString ((m + 1 : Nat) : Int) = Nat.repr (m + 1) := rfl
    rw [e] at this
    show (("-" ++ Nat.repr (m + 1) : String)).toList.length ≤ 31
    rw [String.toList_append, List.length_append]
    have : ("-" : String).toList.length = 1 := rfl
    omega
theorem int_log {i : Int} (h : i.natAbs < 1000000000000000000000000000000) : i.natAbs.log2 < 1920 := by
  rcases Nat.eq_zero_or_pos i.natAbs with h0 | hp
  · rw [h0]; decide
  · exact (Nat.log2_lt (Nat.ne_of_gt hp)).mpr (Nat.lt_of_lt_of_le (Nat.lt_trans h (by decide : 1000000000000000000000000000000 < 2 ^ 128)) (Nat.pow_le_pow_right (by decide) (by decide)))
theorem most_fits {k : Nat} (h : k ≤ rmost) : k ≤ sizeLine := Nat.le_trans h (by decide +kernel)
section
variable {prog : Program} {w : World} {h : Heap} {W : Kx} {H : Hp}
/-- what is known of a shown thing -/
def RG (prog : Program) (w : World) (h : Heap) (n : Nat) (u : Value) (d : PyData) (k : Nat) : Prop :=
  ∃ as bs, Reads h u d as ∧ ReadAtMost h d.depth bs ∧ ReprK prog w bs h d.depth u d.shown ∧ d.shown.length ≤ k ∧ d.depth ≤ n ∧ (∀ a, u = .ref a → ∃ T idr, ShowsBy prog w h a d T idr) ∧ ∀ i, d = .int i → i.natAbs.log2 < 1920
def RGL (prog : Program) (w : World) (h : Heap) (n : Nat) (us : List Value) (ds : List PyData) (k : Nat) : Prop :=
  ∃ as bs, ReadsAll h us ds as ∧ ReadAtMost h (PyData.depthAll ds) bs ∧ ReprAllK prog w bs h (PyData.depthAll ds) us (PyData.shownAll ds) ∧ piled (PyData.shownAll ds) ≤ k ∧ PyData.depthAll ds ≤ n
theorem rg_scal {d : D} {k : Nat} {v : V} {u : Value} (hw : rwS d = some k) (hk : k ≤ rmost) (r : Rep W H d v) (q : RelV v u) : RG prog w h 0 u (pyS d) k := by
  cases d <;> simp only [rwS, reduceCtorEq, Option.some.injEq] at hw
  · subst hw
    rw [show v = .non by simpa [Rep] using r] at q
    cases q
    exact ⟨[], [], .none, (fun _ h => nomatch h), by simp only [pyS, PyData.shown]; exact .of_is ReprIs.none _ _ _, by simp only [pyS, PyData.shown]; decide, by simp only [pyS, PyData.depth]; exact Nat.le_refl _, (fun _ e => by cases e), fun _ e => by cases e⟩
  · subst hw
    rename_i b
    rw [Rep.of_bl r] at q
    cases q
    exact ⟨[], [], .bool b, (fun _ h => nomatch h), by simp only [pyS, PyData.shown]; exact .of_is (ReprIs.bool b) _ _ _, by simp only [pyS, PyData.shown]; cases b <;> decide, by simp only [pyS, PyData.depth]; exact Nat.le_refl _, (fun _ e => by cases e), fun _ e => by cases e⟩
  · rename_i i
    split at hw
    · rename_i hi
      cases hw
      rw [Rep.of_int r] at q
      obtain ⟨t, rfl⟩ := q
      refine ⟨[], [], .int i t, (fun _ h => nomatch h), by simp only [pyS, PyData.shown]; exact .of_is (ReprIs.int t (int_log hi)) _ _ _, ?_, by simp only [pyS, PyData.depth]; exact Nat.le_refl _, (fun _ e => by cases e), fun _ e => by cases e; exact int_log hi⟩
      simp only [pyS, PyData.shown]
      have := int_len hi
      omega
    · cases hw
  · rename_i s
    split at hw
    · rename_i hs
      cases hw
      rw [Rep.of_str r] at q
      obtain ⟨t, rfl⟩ := q
      have hl : (reprText (S s)).length ≤ 10 * s.length + 2 := by
        have := StrLaws.reprText_len (S s) fun c hc => by
          have := List.all_eq_true.mp hs c (by simpa using hc)
          have h2 := of_decide_eq_true this
          exact Nat.lt_of_lt_of_le h2 (by decide)
        rw [S_len] at this
        exact this
      refine ⟨[], [], .str _ t, (fun _ h => nomatch h), by simp only [pyS, PyData.shown]; exact .of_is (ReprIs.str _ t (Nat.le_trans hl (most_fits hk))) _ _ _, ?_, by simp only [pyS, PyData.depth]; exact Nat.le_refl _, (fun _ e => by cases e), fun _ e => by cases e⟩
      simp only [pyS, PyData.shown]
      exact hl
    · cases hw
theorem rgl (f : D → Option Nat) (g : D → PyData) (n : Nat) (hf : ∀ d k v u, f d = some k → k ≤ rmost → Rep W H d v → RelV v u → RG prog w h n u (g d) k) :
    ∀ (ds : List D) (k : Nat) (vs : List V) (us : List Value), rwL f ds = some k → k ≤ rmost → RepL W H ds vs → Vals vs us → RGL prog w h n us (ds.map g) k
  | [], k, vs, us, hw, _, r, q => by
    rw [repL_nil] at r
    subst r
    cases q
    cases hw
    exact ⟨[], [], .nil, (fun _ h => nomatch h), .nil, by simp [PyData.shownAll, piled], by simp [PyData.depthAll]⟩
  | d :: ds, k, [], us, hw, _, r, q => by
    simp only [RepL] at r
    obtain ⟨_, _, e, _⟩ := r
    cases e
  | d :: ds, k, v :: vs, us, hw, hk, r, q => by
    rw [repL_cons] at r
    simp only [rwL] at hw
    obtain ⟨a, ha, hw⟩ := Option.bind_eq_some_iff.mp hw
    obtain ⟨b, hb, hw⟩ := Option.bind_eq_some_iff.mp hw
    cases hw
    cases q with
    | cons q1 q2 =>
      obtain ⟨as1, bs1, r1, m1, k1, s1, d1, _⟩ := hf d a v _ ha (by omega) r.1 q1
      obtain ⟨as2, bs2, r2, m2, k2, s2, d2⟩ := rgl f g n hf ds b vs _ hb (by omega) r.2 q2
      have le1 : (g d).depth ≤ PyData.depthAll (g d :: ds.map g) := by simp only [PyData.depthAll]; exact Nat.le_max_left _ _
      have le2 : PyData.depthAll (ds.map g) ≤ PyData.depthAll (g d :: ds.map g) := by simp only [PyData.depthAll]; exact Nat.le_max_right _ _
      refine ⟨as1 ++ as2, bs1 ++ bs2, .cons r1 r2, (m1.mono le1).append (m2.mono le2), ?_, ?_, ?_⟩
      · show ReprAllK prog w _ h _ _ ((g d).shown :: PyData.shownAll (ds.map g))
        exact .cons ((k1.more fun b hb => List.mem_append_left _ hb).level_le le1) (k2.more_le (fun b hb => List.mem_append_right _ hb) le2)
      · show piled ((g d).shown :: PyData.shownAll (ds.map g)) ≤ _
        rw [piled_cons]
        omega
      · show max (g d).depth (PyData.depthAll (ds.map g)) ≤ n
        exact Nat.max_le.mpr ⟨d1, d2⟩
theorem list_txt (ts : List Str) : (listText ts).length ≤ piled ts + 3 := by
  have := listText_len_le ts
  have e : ∀ ts : List Str, piled ts = (ts.map (·.length)).sum + 2 * ts.length := by
    intro ts
    induction ts with
    | nil => rfl
    | cons t ts ih => rw [piled_cons, ih]; simp only [List.map_cons, List.sum_cons, List.length_cons]; omega
  have := e ts
  omega
theorem join_txt (ts : List Str) : (Str.join ", " ts).length ≤ piled ts := by
  by_cases h : ts = []
  · subst h; exact Nat.zero_le _
  · have := join_length_add ts h
    omega
theorem tuple_txt (ts : List Str) : (tupleText ts).length ≤ piled ts + 3 := by
  have := join_txt ts
  unfold tupleText
  rw [strLen_append, strLen_append]
  have e1 : (("(" : String) : Str).length = 1 := rfl
  have e2 : ((if ts.length == 1 then ",)" else ")" : String) : Str).length ≤ 2 := by split <;> decide
  omega
theorem dict_txt (ts : List Str) : (dictText ts).length ≤ piled ts + 3 := by
  have := join_txt ts
  unfold dictText
  rw [strLen_append, strLen_append]
  have e1 : (("{" : String) : Str).length = 1 := rfl
  have e2 : (("}" : String) : Str).length = 1 := rfl
  omega
theorem kv_piled : ∀ (ks xs : List PyData), ks.length = xs.length → piled (PyData.shownKv (ks.zip xs)) ≤ piled (PyData.shownAll ks) + piled (PyData.shownAll xs)
  | [], [], _ => by simp [PyData.shownKv, PyData.shownAll, piled]
  | k :: ks, x :: xs, h => by
    have := kv_piled ks xs (by simpa using h)
    simp only [List.zip_cons_cons, PyData.shownKv, PyData.shownAll, piled_cons]
    rw [strLen_append, strLen_append]
    have e2 : ((": " : String) : Str).length = 2 := rfl
    omega
theorem kv_depth : ∀ (ks xs : List PyData), ks.length = xs.length → PyData.depthAll ks = 0 → PyData.depthAll xs = 0 → PyData.depthKv (ks.zip xs) = 0
  | [], [], _, _, _ => by simp [PyData.depthKv]
  | k :: ks, x :: xs, h, h1, h2 => by
    simp only [PyData.depthAll] at h1 h2
    have := kv_depth ks xs (by simpa using h) (by omega) (by omega)
    simp only [List.zip_cons_cons, PyData.depthKv]
    omega
/-- a list as it stands -/
theorem rg_list {n : Nat} {a : Addr} {o : Obj} {its : List Value} {m : Nat} {ds : List PyData} {k : Nat} (ho : h.get? a = some o) (hc : o.cls = .type "list") (hd : o.data = .seq its.toArray m) (g : RGL prog w h n its ds k) (hk : k + 3 ≤ rmost) :
    RG prog w h (n + 1) (.ref a) (.list ds) (k + 3) := by
  obtain ⟨as, bs, r, mm, kk, s, dd⟩ := g
  have r1 : Reads h (.ref a) (.list ds) _ := .list ho hc hd (by simpa using r)
  have hna : a ∉ bs := not_mem_of_deeper r1 (by simp only [PyData.depth]; omega) mm
  have hz := list_txt (PyData.shownAll ds)
  have hz2 : (listText (PyData.shownAll ds)).length ≤ sizeLine := Nat.le_trans hz (Nat.le_trans (by omega) (most_fits hk))
  refine ⟨_, a :: bs, r1, ReadAtMost.cons r1 (by simp only [PyData.depth]; omega) mm, ?_, by simp only [PyData.shown]; omega, by simp only [PyData.depth]; omega, ?_, fun _ e => by cases e⟩
  · simp only [PyData.depth, PyData.shown]
    cases its with
    | nil =>
      cases r
      simp only [PyData.shownAll, listText_nil]
      exact ReprK.listEmpty ho hc hd
    | cons x l => exact ReprK.list ho hc hd hna (by simpa using kk.length_eq) fun i y e => kk.item i y (by simpa using e)
  · intro a' ea
    cases ea
    refine ⟨"list", "list.__repr__", F.slot_list_repr.toG, F.slot_list_str, F.slot_list_format, fun s' hk0 => ⟨o, hk0 _ _ ho, hc⟩, ?_⟩
    intro A E s' Q hg hu hk0 hQ
    simp only [PyData.depth, PyData.shown] at hu hQ
    cases its with
    | nil =>
      cases r
      simp only [PyData.shownAll, listText_nil] at hQ
      refine call_list_repr_empty ⟨o, hk0 _ _ ho, hc⟩ (hk0 _ _ ho) hd ?_
      exact hQ _ _ _ fun b o e => e
    | cons x l =>
      refine call_list_reprK (g := []) ho hc hd hna ?_ ?_ hg ?_ hu hk0 hQ hz2
      · simpa using kk.length_eq
      · intro i y e; exact kk.item i y (by simpa using e)
      · intro b hb; exact Clear.nil b
theorem rg_tuple {n : Nat} {a : Addr} {o : Obj} {its : Array Value} {m : Nat} {ds : List PyData} {k : Nat} (ho : h.get? a = some o) (hc : o.cls = .type "tuple") (hd : o.data = .seq its m) (g : RGL prog w h n its.toList ds k) (hk : k + 3 ≤ rmost) :
    RG prog w h (n + 1) (.ref a) (.tuple ds) (k + 3) := by
  obtain ⟨as, bs, r, mm, kk, s, dd⟩ := g
  have r1 : Reads h (.ref a) (.tuple ds) _ := .tuple ho hc hd r
  have hna : a ∉ bs := not_mem_of_deeper r1 (by simp only [PyData.depth]; omega) mm
  have hz := tuple_txt (PyData.shownAll ds)
  refine ⟨_, a :: bs, r1, ReadAtMost.cons r1 (by simp only [PyData.depth]; omega) mm, ?_, by simp only [PyData.shown]; omega, by simp only [PyData.depth]; omega, ?_, fun _ e => by cases e⟩
  · simp only [PyData.depth, PyData.shown]
    exact ReprK.tuple ho hc hd hna kk
  · intro a' ea
    cases ea
    refine ⟨"tuple", "tuple.__repr__", F.slot_tuple_repr, F.slot_tuple_str, F.slot_tuple_format, fun s' hk0 => ⟨o, hk0 _ _ ho, hc⟩, ?_⟩
    intro A E s' Q hg hu hk0 hQ
    simp only [PyData.depth, PyData.shown] at hu hQ
    exact call_tuple_reprK (g := []) ho hc hd hna kk hg (fun b hb => Clear.nil b) hu hk0 hQ (Nat.le_trans hz (Nat.le_trans (by omega) (most_fits hk)))
theorem rg_dict {a : Addr} {o : Obj} {es : Array DictEntry} {m : Nat} {ks xs : List PyData} {k1 k2 n : Nat} (ho : h.get? a = some o) (hc : o.cls = .type "dict") (hd : o.data = .dict es m) (hsys : (a == sysModules) = false) (hl : ks.length = xs.length)
    (gk : RGL prog w h 0 (es.toList.map (·.key)) ks k1) (gx : RGL prog w h 0 (es.toList.map (·.val)) xs k2) (hk : k1 + k2 + 3 ≤ rmost) : RG prog w h (n + 1) (.ref a) (.dict (ks.zip xs)) (k1 + k2 + 3) := by
  obtain ⟨as1, bs1, r1, m1, kk1, s1, d1⟩ := gk
  obtain ⟨as2, bs2, r2, m2, kk2, s2, d2⟩ := gx
  have z1 : (ks.zip xs).map (·.1) = ks := List.map_fst_zip (Nat.le_of_eq hl)
  have z2 : (ks.zip xs).map (·.2) = xs := List.map_snd_zip (Nat.le_of_eq hl.symm)
  have r : Reads h (.ref a) (.dict (ks.zip xs)) _ := .dict ho hc hd (by rw [z1]; exact r1) (by rw [z2]; exact r2)
  have e1 : PyData.depthAll ks = 0 := by omega
  have e2 : PyData.depthAll xs = 0 := by omega
  have e3 := kv_depth ks xs hl e1 e2
  rw [e1] at m1 kk1
  rw [e2] at m2 kk2
  have mm : ReadAtMost h 0 (bs1 ++ bs2) := m1.append m2
  have hna : a ∉ bs1 ++ bs2 := not_mem_of_deeper r (by simp only [PyData.depth]; omega) mm
  have hz := dict_txt (PyData.shownKv (ks.zip xs))
  have hz2 := kv_piled ks xs hl
  have hE := ReprEntriesK.of_two es.toList _ _ (kk1.more_le (fun b hb => List.mem_append_left bs2 hb) (Nat.le_refl _)) (kk2.more_le (fun b hb => List.mem_append_right bs1 hb) (Nat.le_refl _))
  have e4 : PyData.shownKv (ks.zip xs) = List.zipWith (fun k v : Str => k ++ ": " ++ v) (PyData.shownAll ks) (PyData.shownAll xs) := by rw [PyData.shownKv_eq, z1, z2]
  refine ⟨_, a :: (bs1 ++ bs2), r, ReadAtMost.cons r (by simp only [PyData.depth]; omega) mm, ?_, by simp only [PyData.shown]; omega, by simp only [PyData.depth]; omega, ?_, fun _ e => by cases e⟩
  · simp only [PyData.depth, PyData.shown]
    rw [e3, e4]
    exact ReprK.dict ho hc hd hsys hna hE
  · intro a' ea
    cases ea
    refine ⟨"dict", "dict.__repr__", F.slot_dict_repr, F.slot_dict_str, F.slot_dict_format, fun s' hk0 => ⟨o, hk0 _ _ ho, hc⟩, ?_⟩
    intro A E s' Q hg hu hk0 hQ
    simp only [PyData.depth, PyData.shown] at hu hQ
    rw [e3] at hu
    rw [e4] at hQ
    exact call_dict_reprK (g := []) ho hc hd hsys hna hE hg (fun b hb => Clear.nil b) hu hk0 hQ (by rw [← e4]; exact Nat.le_trans hz (Nat.le_trans (by omega) (most_fits hk)))
end
section
variable {X : Cx} {pins : List (Addr × Obj)} {σ : L2.St} {H : Hp} {s : Shared}
theorem vals_snd {α : Type} : ∀ {kvs : List (α × V)} {vs : List (α × Value)}, KV kvs vs → Vals (kvs.map (·.2)) (vs.map (·.2))
  | _, _, .nil => .nil
  | _, _, .cons h r => .cons h.2 (vals_snd r)
theorem ents_val {knd : PySem.KeyKind X.prog X.w Key} : ∀ {es : List DictEntry} {vs : List (Key × Value)}, PySem.Pairs knd es vs → es.map (·.val) = vs.map (·.2)
  | _, _, .nil => rfl
  | _, _, .cons _ e r => by simp only [List.map_cons, e, ents_val r]
theorem ents_key : ∀ {es : List DictEntry} {vs : List (Key × Value)} {kvs : List (Key × V)}, PySem.Pairs (mixKind X.prog X.w) es vs → KV kvs vs → Vals (kvs.map fun p => kV p.1) (es.map (·.key))
  | _, _, _, .nil, .nil => .nil
  | _, _, _, .cons k _ r, .cons h q => .cons (by
    show RelV (kV _) (DictEntry.key _)
    rw [show _ = _ from h.1]
    rcases keyIs_shape k with ⟨i, t, e1, e2⟩ | ⟨x, t, e1, e2⟩
    · rw [e1, e2]; exact ⟨t, rfl⟩
    · rw [e1, e2]; exact ⟨t, rfl⟩) (ents_key r q)
theorem rg_of (I : Inv X pins σ H s) : ∀ (n : Nat) (d : D) (k : Nat) (v : V) (u : Value), rwt n d = some k → k ≤ rmost → Rep (kx X) H d v → RelV v u → RG X.prog X.w s.heap n u (pyR n d) k := by
  have sc : ∀ (n : Nat) (d : D) (k : Nat) (v : V) (u : Value), rwS d = some k → k ≤ rmost → Rep (kx X) H d v → RelV v u → RG X.prog X.w s.heap n u (pyS d) k := fun n d k v u h1 h2 r q => by
    obtain ⟨a, b, c1, c2, c3, c4, c5, c6⟩ := rg_scal (prog := X.prog) (w := X.w) (h := s.heap) h1 h2 r q
    exact ⟨a, b, c1, c2, c3, c4, by omega, c6⟩
  have tup : ∀ (n : Nat) (ih : ∀ (d : D) (k : Nat) (v : V) (u : Value), rwt n d = some k → k ≤ rmost → Rep (kx X) H d v → RelV v u → RG X.prog X.w s.heap n u (pyR n d) k) (xs : List D) (k : Nat) (v : V) (u : Value),
      (rwL (rwt n) xs).map (· + 3) = some k → k ≤ rmost → Rep (kx X) H (.tup xs) v → RelV v u → RG X.prog X.w s.heap (n + 1) u (.tuple (xs.map (pyR n))) k := by
    intro n ih xs k v u hw hk r q
    obtain ⟨k', hw', rfl⟩ := Option.map_eq_some_iff.mp hw
    obtain ⟨a, vs, rfl, hq, hr⟩ := rep_tup.mp r
    cases q
    obtain ⟨its, rv, ⟨o, ho, hc, m, hd⟩, _⟩ := I.tuple hq
    exact rg_tuple ho hc hd (rgl (rwt n) (pyR n) n (fun d k v u => ih d k v u) xs k' vs its hw' (by omega) hr rv) hk
  intro n
  induction n with
  | zero =>
    intro d k v u hw
    have e1 : rwt 0 d = rwS d := by cases d <;> rfl
    have e2 : pyR 0 d = pyS d := by cases d <;> rfl
    rw [e2]
    rw [e1] at hw
    exact sc 0 d k v u hw
  | succ n ih =>
    intro d k v u hw hk r q
    cases d with
    | non => exact sc _ _ _ _ _ hw hk r q
    | bl b => exact sc _ _ _ _ _ hw hk r q
    | int b => exact sc _ _ _ _ _ hw hk r q
    | str b => exact sc _ _ _ _ _ hw hk r q
    | fz d => cases hw
    | scr d => cases hw
    | ins a b c => cases hw
    | lst xs =>
      obtain ⟨k', hw', rfl⟩ := Option.map_eq_some_iff.mp (show (rwL (rwt n) xs).map (· + 3) = some k from hw)
      rw [rep_lst] at r
      obtain ⟨a, vs, rfl, hq, hr⟩ := r
      cases q
      obtain ⟨its, rv, ⟨o, m, ho, hc, _, hd⟩, _⟩ := I.list (SqL.of hq)
      exact rg_list ho hc hd (rgl (rwt n) (pyR n) n (fun d k v u => ih d k v u) xs k' vs its hw' (by omega) hr rv) hk
    | tup xs => exact tup n ih xs k v u hw hk r q
    | nd xs =>
      simp only [Rep] at r
      obtain ⟨a, ob, vs, ev, hf, _, hr⟩ := r
      exact tup n ih xs k v u hw hk (rep_tup.mpr ⟨a, vs, ev, .inl (.inr ⟨ob, hf⟩), hr⟩) q
    | dic ks xs =>
      have hw2 : (if simpleKs ks = true then (rwL rwS ks).bind fun a => (rwL rwS xs).bind fun b => some (a + b + 3) else none) = some k := hw
      split at hw2
      · rename_i hs
        obtain ⟨k1, h1, hw3⟩ := Option.bind_eq_some_iff.mp hw2
        obtain ⟨k2, h2, hw4⟩ := Option.bind_eq_some_iff.mp hw3
        cases hw4
        obtain ⟨a, o, kvs, rfl, qa, hks, rx⟩ := rep_dicK hs r
        cases q
        obtain ⟨_, hz, hsys, vs, kv, o2, es, ep, ho, hx, hd, _, hp, _⟩ := (show ObjOk X.prog X.w H s.heap a (.frz o (.dK kvs)) from I.hok a _ qa)
        have hlen : ks.length = xs.length := by
          rw [hks, List.length_map, rx.length, List.length_map]
        have rk : RepL (kx X) H ks (kvs.map fun p => kV p.1) := by
          rw [hks]
          clear hks hz kv qa rx r hlen h1 hs
          induction kvs with
          | nil => exact .nil
          | cons p r ih => exact .cons (rep_kV _) ih
        refine rg_dict ho hx.1 hd hsys (by rw [List.length_map, List.length_map]; exact hlen) ?_ ?_ hk
        · exact rgl rwS pyS 0 (fun d k v u h1 h2 r q => rg_scal h1 h2 r q) ks k1 _ _ h1 (by omega) rk (ents_key hp kv)
        · rw [ents_val hp]
          exact rgl rwS pyS 0 (fun d k v u h1 h2 r q => rg_scal h1 h2 r q) xs k2 _ _ h2 (by omega) rx (vals_snd kv)
      · cases hw2
/-- repr(x): the text of a thing -/
def rRepr (W : Kx) : List V → Hp → VK → Prop := fun xs H Q => ∃ v d k, xs = [v] ∧ Rep W H d v ∧ rwt rdeep d = some k ∧ k ≤ rmost ∧ Q (.str (pyR rdeep d).shown) H
theorem call_reprG (hg : X.A.guards = some []) (hu : X.A.units + 64 < cLine) : CallR X (.builtin "repr") (rRepr (kx X)) := by
  intro pins s σ H xs us Q I r h
  obtain ⟨v, d, k, rfl, hr, hw, hk, q⟩ := h
  obtain ⟨u, rfl, ru⟩ := vals1 r
  obtain ⟨as, bs, r1, mm, _, sz, dp, sh, li⟩ := rg_of I rdeep d k v u hw hk hr ru
  have hsz := Nat.le_trans sz (most_fits hk)
  have hd : rdeep = 12 := rfl
  generalize pyR rdeep d = D at *
  have fin : EP X pins σ Q (.str D.shown s.toks) { s with toks := s.toks + 1 } := ⟨.str _, H, I.tok _, ⟨_, rfl⟩, q⟩
  -- of an object
  have obj : ∀ a, u = .ref a → wpAny (model X.prog X.w) X.A (call (.builtin "repr") [u]) (EP X pins σ Q) X.xe s := by
    rintro a rfl
    obtain ⟨T, idr, B⟩ := sh a rfl
    refine call_repr_slot (by omega) (B.typeIs s fun b o e => e) B.slotRepr ?_
    refine B.call X.A.in1 _ s _ hg ?_ (fun b o e => e) ?_
    · show X.A.units + 1 + D.depth < cLine
      omega
    · intro h' t tk kp
      exact ⟨_, _, rfl, .str _, H, I.kept kp, ⟨t, rfl⟩, q⟩
  cases r1 with
  | none => exact PySem.P.repr_of_none (by simp only [PyData.shown] at fin; exact fin)
  | bool b => exact PySem.P.repr_of_bool (by simp only [PyData.shown] at fin; exact fin)
  | int i t => exact PySem.P.repr_of_int (li i rfl) (by simp only [PyData.shown] at fin; exact fin)
  | str x t => exact PySem.P.repr_of_str (by simp only [PyData.shown] at fin; exact fin) (by simp only [PyData.shown] at hsz; exact hsz)
  | list ho hc hd2 r2 => exact obj _ rfl
  | tuple ho hc hd2 r2 => exact obj _ rfl
  | dict ho hc hd2 r2 r3 => exact obj _ rfl
theorem pure_repr : PureFn (kx X) (rRepr (kx X)) (f1 dRepr) := pure1 fun F H d z v Q hs r hf hq => by
  obtain ⟨k, hw, hf⟩ := Option.bind_eq_some_iff.mp hf
  split at hf
  · rename_i hk
    cases hf
    refine ⟨v, d, k, rfl, r.deep hs, hw, hk, ?_⟩
    have e : (V.str (pyR rdeep d).shown) = V.str (S (pyR rdeep d).shown.cps.toList) := by
      congr 1
    rw [e]
    exact hq.here hs Rep.str
  · cases hf
end
end L3

noncomputable section
/-! # L4C: the law's own def where repr is called in it: no repr is under way -/
namespace L3
open PySem PySem.Spec L2
open PyProof.Rows hiding St
section
variable {P : Program} {w : World} {K : PySem.W.Frag} {mg : Str → Option Value} {base : Heap}
/-- a def's promise where no repr is under way -/
structure FnG (P : Program) (w : World) (K : PySem.W.Frag) (mg : Str → Option Value) (base : Heap) (k : Nat) (f : Addr) (fd : FuncData) (ps : List Str) (sp : Sp) : Prop where
  len : ∀ vs H Q E, sp vs H Q E → vs.length = ps.length
  run : ∀ (A : Around) (outer : List Env) (s : Shared) (H : Hp) (args : Args) (us : List Value) (vs : List V) (Q : VK) (E : XK), A.guards = some [] → Room k A →
    Env0 P w K mg base A outer s H → BindsTo s fd args (ps.zip us) → Vals vs us → sp vs H Q E → codeAny (model P w) A (.call (.ref f) args) (CR (L2.CX P w) outer P w H s Q E) s
theorem FnG.imp {k : Nat} {f : Addr} {fd : FuncData} {ps : List Str} {sp sp' : Sp} (F : FnG P w K mg base k f fd ps sp) (h : ∀ vs H Q E, sp' vs H Q E → sp vs H Q E) : FnG P w K mg base k f fd ps sp' :=
  ⟨fun vs H Q E q => F.len vs H Q E (h _ _ _ _ q), fun A outer s H args us vs Q E g r e b v q => F.run A outer s H args us vs Q E g r e b v (h _ _ _ _ q)⟩
/-- a body that may lean on that -/
def BodyG (P : Program) (w : World) (K : PySem.W.Frag) (mg : Str → Option Value) (base : Heap) (N : List Str) (qual : Str) (st : Stmt) (f : Addr) (k : Nat) (io : List Nat) (mk : List Kd) (kr : Kd) (m : M3) : Prop :=
  ∀ (cdv : Value) (A : Around) (outer : List Env) (s : Shared) (H : Hp) (E : XK), InDef (cxOf (L2.CX P w) P w K mg base N qual (defScope st) f cdv A outer s H E) E k N st →
    (cxOf (L2.CX P w) P w K mg base N qual (defScope st) f cdv A outer s H E).A.guards = some [] →
    BV (cxOf (L2.CX P w) P w K mg base N qual (defScope st) f cdv A outer s H E) io (wE E) mk kr (defBody st) m
theorem deeper_guards {A : Around} {env : Env} : (A.deeper env).guards = A.guards := rfl
/-- what a body reads, started -/
theorem body_end {qual : Str} {st : Stmt} {f : Addr} {N ps : List Str} {mk : List Kd} {kr : Kd} {m : M3} {cdv : Value} {A : Around} {outer : List Env} {s : Shared} {H : Hp} {E : XK} {vs : List V} {Q : VK} (hk : allFr mk ps.length = true) (hl : ps.length ≤ N.length)
    (b : BV (cxOf (L2.CX P w) P w K mg base N qual (defScope st) f cdv A outer s H E) [] (wE E) mk kr (defBody st) m) (h : spP ⟨K, mg⟩ ps.length kr (denP N.length m) vs H Q E) :
    ∃ t, PSs (cxOf (L2.CX P w) P w K mg base N qual (defScope st) f cdv A outer s H E) (defBody st) t ∧ t { nx := fun _ H' => Q .non H', rt := Q } (L2.start N vs) H := by
  obtain ⟨F, ds, hs, r, e, h⟩ := h
  refine ⟨_, b, ⟨F, H, [], L2.start N vs, []⟩, F, env0 N.length ds, fun _ => [], rl_start hs r (by rw [e]; exact hl) (fun i hi => allFr_h hk i (by rw [← e]; exact hi)), ?_⟩
  unfold denP at h
  cases q : m (env0 N.length ds) with
  | rt d e' =>
    rw [q] at h
    rintro v σ' H' _ r
    rcases r with ⟨F', rt, rs, h1, l, k, n, o⟩ | ⟨hkr, F', rt, i, hif, h1, l, k⟩ | ⟨F', rt, i, hi0, h1, l, k⟩
    · exact h v H' F' rs h1 l.fr.sub (fun b u z => l.fr.keep b u z fun m => by cases m) (l.fr.frz0 rfl) k n fun p hp => (o p hp).2.1
    rotate_left
    · exact h v H' F' (rt i) h1 l.fr.sub (fun b u z => l.fr.keep b u z fun m => by cases m) (l.fr.frz0 rfl) k (l.nd i) fun p hp => by
        rcases l.own i p hp with z | z
        · exact z
        · cases z.1
    · subst hkr
      have hn : ∀ p ∈ rt i, F' p = none := fun p hp => (l.none hp).1
      have ho : ∀ p ∈ rt i, H p = none := fun p hp => by
        rcases l.own i p hp with z | z
        · exact z
        · cases z.1
      have fr2 := l.fr.freeze hn (fun p hp => .inl (ho p hp))
      exact h v H' (frz F' H' (rt i)) [] (h1.trans (frz_of hn)) fr2.sub (fun b u z => fr2.keep b u z fun m => by cases m) (fr2.frz0 rfl) ⟨RepK.toRep (frz_of hn) hif.2 k fun p hp => frz_in hp, rfl⟩ .nil fun p hp => by cases hp
  | nx e' =>
    rw [q] at h
    intro σ' F' rt' H' _ h1 l
    exact h .non H' F' [] h1 l.fr.sub (fun b u z => l.fr.keep b u z fun m => by cases m) (l.fr.frz0 rfl) (RepK.flat_of rfl Rep.non) .nil fun p hp => by cases hp
  | exc c fs =>
    rw [q] at h
    intro σ _ C a σ' H' F' ws hC _ h1 fr hx rx
    exact h C a H' F' ws hC h1 fr.sub (fun b u z => fr.keep b u z fun m => by cases m) (fr.frz0 rfl) hx rx
  | bk e' => rw [q] at h; exact h.elim
  | ct e' => rw [q] at h; exact h.elim
  | stk => rw [q] at h; exact h.elim
/-- a def of the text, by its body -/
theorem fnG_pure {x qual : Str} {st : Stmt} {f : Addr} {fd : FuncData} {N ps : List Str} {k : Nat} {mk : List Kd} {kr : Kd} {m : M3} (Fn : Fun K x qual st f fd) (S : FnScope N ps (defScope st)) (hk : allFr mk ps.length = true) (hl : ps.length ≤ N.length)
    (body : BodyG P w K mg base N qual st f k [] mk kr m) : FnG P w K mg base (k + 1) f fd ps (spP ⟨K, mg⟩ ps.length kr (denP N.length m)) := by
  obtain ⟨oc, od, kV, doc, pm, an, cdv, ct, osl, rfl, lk, hcd⟩ := Fn.ex
  have len : ∀ vs H Q E, spP ⟨K, mg⟩ ps.length kr (denP N.length m) vs H Q E → vs.length = ps.length := fun vs H Q E ⟨F, ds, _, r, e, _⟩ => by rw [← r.length, e]
  refine ⟨len, ?_⟩
  intro A outer s H args us vs Q E hg room e0 bind rv want
  have same : ∀ b o, base.get? b = some o → s.heap.get? b = some o := fun b o e => (e0.bs b o e).1
  have inK : K.In s.heap := e0.mod.kin.keeps same
  refine codeAny_call_function room.depth (inK _ _ lk) rfl S.co S.gen rfl (PySem.W.codeRec_of inK hcd) (bind _ _ _ _ ?_)
  refine wpAny_newFunctionEnv_cells S.kind ?_ ?_
  · rintro ⟨n, v⟩ hy
    rcases S.par n (List.of_mem_zip hy).1 with q | q
    · left; exact q
    · right; exact ⟨q, PySem.W.cellsFrom_some _ _ _ (.inl q)⟩
  · rintro env rfl s1 x
    refine ⟨(e0.mod.nolimit.keeps same).keeps x.toInCall.keep, codeAny_func ?_⟩
    have rm := room.deeper (k := k) (envOfC qual (defScope st) s.heap.objs.size f cdv)
    obtain ⟨t, ht, hq⟩ := body_end hk hl (body cdv A outer s H E ⟨rfl, takes_of rfl rfl rfl rfl, passes_of rfl, rm⟩ (by exact hg)) want
    have I := inv_start (CX := L2.CX P w) (E := E) (cd := cdv) (f := f) S room.hd e0 (len _ _ _ _ want) rv x
    refine wpAny_mono (ht.run [] s1 (L2.start N vs) H _ I hq) ?_ fun e s' hs => hs
    intro fl s' hs
    cases fl with
    | brk => obtain ⟨_, _, _, z⟩ := hs; exact z.elim
    | cont => obtain ⟨_, _, _, z⟩ := hs; exact z.elim
    | next =>
      obtain ⟨σ', H', J, z⟩ := hs
      exact ⟨V.non, H', J.os, J.bare, J.base, J.hok, rfl, z⟩
    | ret u =>
      obtain ⟨v, σ', H', J, r, z⟩ := hs
      exact ⟨v, H', J.os, J.bare, J.base, J.hok, r, z⟩
theorem fnG_law {k : Nat} {f : Addr} {fd : FuncData} {ps : List Str} {den : List D → FR} (F : FnG P w K mg base k f fd ps (spP ⟨K, mg⟩ 1 .fr den)) (h : ∀ ns : List Int, ns.length ≤ 63 → den [.scr ns] = .ok (.bl true)) : FnG P w K mg base k f fd ps (spLaw K) := by
  refine F.imp fun vs H Q E ⟨a, ns, e, hs, hl, q⟩ => ?_
  subst e
  refine ⟨H, [.scr ns], fun b o z => z, ?_, rfl, ?_⟩
  · refine .cons ?_ .nil
    simp only [Rep]
    exact ⟨a, rfl, hs⟩
  · rw [h ns hl]
    intro v H' F' rs h1 h2 h3 h4 k nd o
    rw [Rep.of_bl k.1]
    exact q H'
end
/-- the call from outside, where at most the script is tracked and no dict is -/
theorem begin_law {P : Program} {w : World} {K : PySem.W.Frag} {mg mb : Str → Option Value} {k : Nat} {fa a : Addr} {fd : FuncData} {s₁ : Shared} {u : Array Value} {ns : List Int} {H : Hp}
    (inK : K.In s₁.heap) (glob : s₁.heap.Ns mainGlobals mg) (blt : s₁.heap.Ns builtinsNs mb) (boot : ∀ x : Str, x ≠ "__name__" → mb x = bootBuiltins x) (lim : s₁.heap.NoLimit) (gens : s₁.gens = #[])
    (isL : s₁.heap.get? a = some { cls := .type "list", data := .seq u }) (few : ns.length ≤ 63) (room : Room k callerA)
    (F : ∀ base : Heap, K.In base → base.Ns mainGlobals mg → FnG P w K mg base k fa fd ["script"] (spLaw K)) (bind : ∀ (s : Shared) (u : Value), BindsTo s fd ⟨[u], []⟩ [("script", u)])
    (only : ∀ b, H b = none ∨ b = a ∧ K.lookup a = none ∧ ∃ o xs, H b = some (.frz o (.lst xs))) (seq : SqL K H a (ns.map V.int)) (ok : HOk P w H s₁.heap) :
    codeAny (model P w) callerA (.call (.ref fa) ⟨[.ref a], []⟩) (fun r s' => r = .ok (.ret (.bool true)) ∧ OldK s₁.heap s'.heap ∧ s'.os = s₁.os ∧ AllBare s'.gens) s₁ := by
  -- what a dict is or K holds is not tracked
  have noD : ∀ {b : Addr} {m : Str → Option Value}, s₁.heap.Ns b m → (hidT s₁.heap H).Ns b m := by
    rintro b m ⟨o, es, ep, e, d, r⟩
    refine ⟨o, es, ep, hidT_get e ?_, d, r⟩
    rcases only b with z | ⟨rfl, _⟩
    · exact z
    · rw [isL] at e
      cases e
      cases d
  have noK : K.In (hidT s₁.heap H) := by
    intro b o e
    refine hidT_get (inK b o e) ?_
    rcases only b with z | ⟨rfl, z, _⟩
    · exact z
    · rw [z] at e
      cases e
  have mod : Mod K mg (hidT s₁.heap H) := ⟨noK, noD glob, ⟨mb, noD blt, boot⟩, by
    obtain ⟨mc, h1, h2⟩ := lim
    exact ⟨mc, noD h1, h2⟩⟩
  have env : Env0 P w K mg (hidT s₁.heap H) callerA [] s₁ H :=
    { frames := rfl, mod := mod, bs := fun b o e => of_hidT e, bsz := by rw [hidT_size]; exact Nat.le_refl _, funs := trivial, frf := fun b hb => by simp [frs] at hb, hok := ok, bare := .of_eq gens }
  refine codeAny_mono ((F _ noK (noD glob)).run callerA [] s₁ H ⟨[.ref a], []⟩ [.ref a] [.ref a] (fun v _ => v = .bl true) (fun _ _ _ => False) rfl room env (bind s₁ (.ref a)) (.cons rfl .nil) ⟨a, ns, rfl, seq, few, fun _ => rfl⟩) ?_
  rintro r s' h
  cases r with
  | error e => obtain ⟨_, _, _, _, _, _, _, _, _, _, _, _, z⟩ := h; exact z.elim
  | ok fl =>
    cases fl with
    | next => exact h.elim
    | brk => exact h.elim
    | cont => exact h.elim
    | ret x =>
      obtain ⟨v, H', os, bare, un, ok', rv, qv⟩ := h
      have qv' : v = .bl true := qv
      subst qv'
      cases rv
      refine ⟨rfl, OldK.of_keep ?_, os, bare⟩
      intro b o e
      rcases only b with z | ⟨_, _, ob, xs, z⟩
      · refine un.keep b o e z ?_ ?_
        · intro m; simp [frs] at m
        · simp
      · have e1 := (ok b _ z).1
        have e2 := (ok' b _ (un.frzs b ob _ z)).1
        rw [e] at e1
        cases e1
        exact e2
theorem law_callG {P : Program} {w : World} {K : PySem.W.Frag} {mg mb : Str → Option Value} {k : Nat} {fa a : Addr} {fd : FuncData} {s₁ : Shared} {vs : List Value} {ns : List Int}
    (inK : K.In s₁.heap) (glob : s₁.heap.Ns mainGlobals mg) (blt : s₁.heap.Ns builtinsNs mb) (boot : ∀ x : Str, x ≠ "__name__" → mb x = bootBuiltins x) (lim : s₁.heap.NoLimit) (gens : s₁.gens = #[])
    (isL : s₁.heap.get? a = some { cls := .type "list", data := .seq vs.toArray }) (isI : IntsAre vs ns) (few : ns.length ≤ 63) (room : Room k callerA)
    (F : ∀ base : Heap, K.In base → base.Ns mainGlobals mg → FnG P w K mg base k fa fd ["script"] (spLaw K)) (bind : ∀ (s : Shared) (u : Value), BindsTo s fd ⟨[u], []⟩ [("script", u)]) :
    codeAny (model P w) callerA (.call (.ref fa) ⟨[.ref a], []⟩) (fun r s' => r = .ok (.ret (.bool true)) ∧ OldK s₁.heap s'.heap ∧ s'.os = s₁.os ∧ AllBare s'.gens) s₁ := by
  have rv := vals_ints isI
  have sz : ns.length ≤ sizeLine := Nat.le_trans few (by decide)
  have szV : vs.length ≤ sizeLine := by rw [isI.length]; exact sz
  cases hk : K.lookup a with
  | some o =>
    have e := inK a o hk
    rw [isL] at e
    cases e
    refine begin_law (H := fun _ => none) inK glob blt boot lim gens isL few room F bind (fun b => .inl rfl) (.inr ?_) ?_
    · exact ⟨_, vs.toArray, _, hk, rfl, rfl, rfl, by rw [List.size_toArray]; exact szV, by simpa using rv⟩
    · intro b u z
      cases (show (none : Option HO) = some u from z)
  | none =>
    have at_a : (fun b => if b = a then some (HO.frz { cls := .type "list", data := .seq vs.toArray } (.lst (ns.map V.int))) else none) a = some (HO.frz { cls := .type "list", data := .seq vs.toArray } (.lst (ns.map V.int))) := if_pos rfl
    refine begin_law (H := fun b => if b = a then some (.frz { cls := .type "list", data := .seq vs.toArray } (.lst (ns.map V.int))) else none) inK glob blt boot lim gens isL few room F bind ?_ (.inl (.inr ⟨_, at_a⟩)) ?_
    · intro b
      by_cases hb : b = a
      · subst hb; exact .inr ⟨rfl, hk, _, _, at_a⟩
      · exact .inl (if_neg hb)
    · intro b u z
      by_cases hb : b = a
      · subst hb
        rw [at_a] at z
        cases z
        exact ⟨isL, by rw [List.length_map]; exact sz, vs, _, rv, isL⟩
      · cases (if_neg hb).symm.trans z
/-- the goal that the head leaves -/
theorem walk_ofG {l : PySem.W.OpenLaw} {k : Nat} {q : Program} {loose : List Str} {XP : (Str → Option Value) → Heap → Prop} {YP : World → Heap → Prop} {d : DefRec} {K : Params → PySem.W.Frag}
    (most : l.most = some 63) (noDf : d.params.defaults = []) (room : Room k callerA) (hY : ∀ (w : World) (h : Heap), YP w h → (K w.params).In h)
    (F : ∀ (w : World) (mg : Str → Option Value) (fa : Addr) (h : Heap), (K w.params).In h → h.Ns mainGlobals mg → mg d.name = some (.ref fa) →
      ∃ fd : FuncData, (∀ (s : Shared) (u : Value), BindsTo s fd ⟨[u], []⟩ [("script", u)]) ∧ ∀ base : Heap, (K w.params).In base → base.Ns mainGlobals mg → FnG l.prog w (K w.params) mg base k fa fd ["script"] (spLaw (K w.params))) :
    PySem.W.WalkO q loose XP YP l.row.toRowW d [] (fun f vs => PySem.call f vs) := by
  refine Att.attach_call most noDf ?_
  intro w s₀ s₁ mg mb fa o pm cd doc a vs ns G Y ho hd hcd hmg isL isI few gens
  obtain ⟨fd, hb, hF⟩ := F w mg fa _ (hY w _ Y) G.T.g hmg
  exact law_callG (hY w _ Y) G.T.g G.T.b G.T.builtins G.T.nolimit gens isL isI few room hF hb
end L3

noncomputable section
/-! # L4D: t.count(x) of a tuple that is known to have no dict, of ints -/
namespace L3
open PySem PySem.Spec L2
open PyProof.Rows hiding St
section
variable {X : Cx} {io : List Nat} {E : WX} {mk : List Kd}
def rCntT (K : PySem.W.Frag) : V → List V → Hp → VK → Prop := fun x xs H Q => ∃ (a : Addr) (ys : List V) (y : V), x = V.ref a ∧ xs = [y] ∧ SqT K H a ys ∧ flatV y = true ∧ ys.all flatV = true ∧ Q (.int (ys.countP (fun z => eqV z y) : Nat)) H
theorem mt_tcountF : MtR X "tuple.count" (rCntT X.K) := by
  rintro pins s σ H x xs v us Q I rx rxs ⟨a, ys, y, rfl, rfl, hs, fy, fys, q⟩
  cases rx
  obtain ⟨uy, rfl, ry⟩ := vals1 rxs
  obtain ⟨its, rv, ⟨⟨cls, dd, data, sl⟩, ho, hc, n, hd⟩, _⟩ := I.tuple hs
  simp only at hc hd
  subst hc hd
  refine call_meets PySem.F.slot_tuple_count ⟨_, ho, rfl⟩ PySem.F.entry_tuple_count (PySem.F.args_tuple_count_2 _ _) (SeqAt.tuple_countAt a its.toArray n dd sl uy (eqU y)) ⟨ho, ?_, ?_⟩
  · intro u' hu'
    exact mem_eqAt ry fy rv fys u' (by simpa using hu')
  · have ec : its.toArray.toList.countP (eqU y) = ys.countP fun z => eqV z y := cnt_of rv fys
    refine ⟨.int (ys.countP (fun z => eqV z y) : Nat), H, I.tok _, ⟨s.toks, ?_⟩, q⟩
    show Value.int ((its.toArray.toList.countP (eqU y) : Nat) : Int) s.toks = _
    rw [ec]
def tNdCt (K : PySem.W.Frag) (to tx : TE) : TE := fun σ H Q => to σ H fun x H1 => (∃ p o ys, x = .ref p ∧ H1 p = some (.frz o (.tup ys)) ∧ o.dict = none) ∧ tx σ H1 fun y H2 => rCntT K x [y] H2 Q
theorem pe_ndCt {o e : Expr} {to tx : TE} {apos cpos : Pos} (ho : PE X o to) (ha : PE X e tx) (hbase : attributeBase o "count" X.env (eval o X.env) = eval o X.env := by rfl)
    (hfew : ((backTo cpos (starEach [e] X.env)).all (fun x => !x.1) && (backToKw cpos (keywordEach [] X.env)).all (fun x => x.1.isSome)
      && decide (([e] : List Expr).length + ([] : List Keyword).length + (if ([] : List Keyword).isEmpty then 0 else 1) < 30)) = true := by rfl)
    (hline : (apos.endLine == cpos.line) = true := by rfl) (hs : starEach [e] X.env = (false, eval e X.env) :: starEach [] X.env := by rfl) :
    PE X (.Call (.Attribute o "count" apos) [e] [] cpos) (tNdCt X.K to tx) := by
  refine ⟨fun pins s σ H Q I h => ?_⟩
  refine wpAny_Call_method_late hbase hfew hline rfl (thn (ho.run pins s σ H _ I h) fun v s1 ⟨x, H1, I1, r1, ⟨p, ob, ys, ex, hp, hd⟩, q1⟩ => ?_)
  subst ex
  cases r1
  obtain ⟨hg, _⟩ := (show ObjOk X.prog X.w H1 s1.heap p (.frz ob (.tup ys)) from I1.hok p _ hp)
  obtain ⟨its, _, ⟨o2, ho2, hc2, _⟩, _⟩ := I1.tuple (show SqT X.K H1 p ys from .inl (.inr ⟨ob, hp⟩))
  refine ⟨"tuple", "tuple.count", PySem.F.plainAttrs_tuple, PySem.F.slot_tuple_count, PySem.F.type_tuple_count, ⟨o2, ho2, hc2⟩, fun a ea => ?_, ?_⟩
  · cases ea
    exact ⟨ob, hg, hd⟩
  · have hA := (pa_cons ha pa_nil hs).run cpos pins s1 σ H1 (fun xs H2 => match xs with
      | [y] => rCntT X.K (.ref p) [y] H2 Q
      | _ => False) I1 q1
    rw [hs] at hA ⊢
    refine Calls.callWith_builtin (by rfl) (Calls.evalArgs_plain ?_)
    exact thn hA fun us s2 ⟨vs, H2, I2, r2, q2⟩ => by
      cases r2 with
      | nil => exact q2.elim
      | cons ra rb =>
        cases rb with
        | cons _ _ => exact q2.elim
        | nil => exact mt_tcountF pins s2 σ H2 (.ref p) _ _ _ Q I2 rfl (.cons ra .nil) q2
def dTCt : List D → D → Option D := fun xs y => match y with
  | .int z => (intsOf xs).map fun is => .int (is.count z : Nat)
  | _ => none
def mTCount (ma mb : M D) : M D := fun e => (ma e).bind fun x e1 => match ndT x with
  | some xs => (mb e1).bind fun y e2 => .opt (dTCt xs y) e2
  | none => .stk
theorem Ok_TCount {ma mb : M D} {e : Env3} {K : D → Env3 → Prop} {Y : KX} : Ok (mTCount ma mb e) K Y = Ok (ma e) (fun x e1 => Op (ndT x) fun xs => Ok (mb e1) (fun y e2 => Op (dTCt xs y) fun z => K z e2) Y) Y := by
  unfold mTCount
  rw [Ok_bind]
  refine Ok_ext fun x e1 => ?_
  cases ndT x with
  | none => rfl
  | some xs =>
    show Ok ((mb e1).bind _) K Y = Ok (mb e1) _ Y
    rw [Ok_bind]; refine Ok_ext fun y e2 => ?_; exact Ok_opt
theorem ev_tcount {o x : Expr} {mo m : M D} {apos cpos : Pos} (ho : EV X io E mk o mo .fr) (ha : EV X io E mk x m .fr) (hbase : attributeBase o "count" X.env (eval o X.env) = eval o X.env := by rfl)
    (hfew : ((backTo cpos (starEach [x] X.env)).all (fun x => !x.1) && (backToKw cpos (keywordEach [] X.env)).all (fun x => x.1.isSome)
      && decide (([x] : List Expr).length + ([] : List Keyword).length + (if ([] : List Keyword).isEmpty then 0 else 1) < 30)) = true := by rfl)
    (hline : (apos.endLine == cpos.line) = true := by rfl) (hs : starEach [x] X.env = (false, eval x X.env) :: starEach [] X.env := by rfl) : EV X io E mk (.Call (.Attribute o "count" apos) [x] [] cpos) (mTCount mo m) .fr :=
  (pe_ndCt ho ha hbase hfew hline hs).imp fun σ H Q h => by
    obtain ⟨g, F, e, rt, l, h⟩ := h
    refine ⟨g, F, e, rt, l, ?_⟩
    unfold mTCount at h
    cases q : mo e with
    | exc c fs => rw [q] at h; exact h
    | stk => rw [q] at h; exact h
    | ok d e1 =>
      rw [q] at h
      simp only [R.bind_ok] at h
      intro v H1 r
      obtain ⟨F1, rt1, rs, s1, l1, k1, n1, o1⟩ := r.ex
      cases d with
      | nd xs =>
        have k2 := k1.1
        simp only [Rep] at k2
        obtain ⟨a, ob, vs, ev, hf, hd, hr⟩ := k2
        subst ev
        refine ⟨⟨a, ob, _, rfl, l1.fr.sub _ _ hf, hd⟩, g, F1, e1, rt1, l1, ?_⟩
        simp only [ndT] at h
        cases q2 : m e1 with
        | exc c fs => rw [q2] at h; exact Exq.mono s1 h
        | stk => rw [q2] at h; exact h
        | ok y e2 =>
          rw [q2] at h
          intro v2 H2 r2
          obtain ⟨F2, rt2, rs2, s2, l2, k2, n2, o2⟩ := r2.ex
          simp only [R.bind_ok] at h
          cases y with
          | int z =>
            simp only [dTCt] at h
            cases q3 : intsOf xs with
            | none => rw [q3] at h; exact h.elim
            | some is =>
              rw [q3] at h
              simp only [Option.map_some] at h
              have e3 := intsOf_h q3 hr
              subst e3
              have ecnt : (is.map V.int).countP (fun w => eqV w (.int z)) = is.count z := by
                rw [List.countP_map, List.count]
                refine List.countP_congr fun i _ => ?_
                show (eqV (.int i) (.int z) = true) ↔ _
                simp [eqV]
              refine ⟨a, is.map V.int, .int z, rfl, by rw [Rep.of_int k2.1], .inl (.inr ⟨ob, l2.fr.sub _ _ (s2 _ _ hf)⟩), rfl, by rw [List.all_map]; exact List.all_eq_true.mpr fun _ _ => rfl, ?_⟩
              rw [ecnt]
              exact h _ H2 ⟨F2, rt2, [], s1.trans s2, l2, ⟨Rep.int, rfl⟩, .nil, fun p hp => by cases hp⟩
          | _ => exact h.elim
      | _ => exact h.elim
end
end L3

noncomputable section
/-! # L4E: a subscript of an own list among the targets -/
namespace L3
open PySem PySem.Spec L2
open PyProof.Rows hiding St
section
variable {X : Cx} {io : List Nat} {E : WX} {mk : List Kd}
def gfS (i : Nat) (k : Int) : D → Env3 → Option Env3 := fun d e => match e[i]? with
  | some (some (.lst xs)) => (ixN xs.length k).map fun j => e.set i (some (.lst (xs.set j d)))
  | _ => none
/-- x[k] as a target, k written -/
theorem gv_sub (i : Nat) (k : Int) {x : Str} {np tpos : Pos} {ei : Expr} (hx : PE X (.Name x np) (tVar i)) (hi : PE X ei (fun σ H Q => Q (.int k) H)) (hk : mk.getD i .fr = .own .fr := by rfl)
    (ha : ∀ v, assign (.Subscript (.Name x np) ei tpos) X.env v = (do
      let ov ← holding [v] (eval (.Name x np) X.env)
      let iv ← holding [v, ov] (eval ei X.env)
      standAt tpos
      holding [v, ov, iv] (setItem ov iv v)
      release [v, ov, iv] []) := by intro _; rfl) : GV X io mk (.Subscript (.Name x np) ei tpos) [] (gfS i k) :=
  (pg_sub hx hi set_list ha).imp fun v σ H Q h => by
    obtain ⟨g, F, e, rt, d, l, r, h⟩ := h
    unfold gfS at h
    cases h2 : e[i]? with
    | none => rw [h2] at h; exact h.elim
    | some o2 =>
      cases o2 with
      | none => rw [h2] at h; exact h.elim
      | some d2 =>
        cases d2 with
        | lst xs =>
          rw [h2] at h
          dsimp only at h
          obtain ⟨p, vs, c1, c2, c3, c4, c5⟩ := l.slot hk h2
          refine ⟨_, c1, ?_⟩
          cases q3 : ixN xs.length k with
          | none => rw [q3] at h; exact h.elim
          | some j =>
            rw [q3] at h
            refine ⟨p, vs, k, j, rfl, rfl, c2, by rw [← c4.length]; exact q3, ?_⟩
            exact h σ F rt _ rfl (fun _ _ => rfl) (Same.refl _) (l.store hk h2 c1 c2 (c4.set j r))
        | _ => rw [h2] at h; exact h.elim
end
section
variable {X : Cx} {io : List Nat} {E : WX} {mk : List Kd} {kr : Kd}
/-- a, b = x, None: the first is own -/
theorem sv_parN (i j : Nat) {k : Kd} {x y : Str} {a : Expr} {m1 : M L3.D} {px py pt pos p7 : Pos} {kt k2 pt2 k7} (hc : X.calm = true) (ha : EV X io E mk a m1 k) (hw : swappedStores [.Tuple [.Name x px, .Name y py] kt pt] (.Tuple [a, .Constant .none k7 p7] k2 pt2) X.env = pure (some [x, y]) := by rfl)
    (hk1 : mk.getD i .fr = k := by rfl) (hk2 : mk.getD j .fr = .fr := by rfl) (hi1 : i ∉ io := by decide) (hi2 : j ∉ io := by decide) (hij : i ≠ j := by decide) (hN : X.N.Nodup := by assumption) (hx : X.N[i]? = some x := by rfl) (hy : X.N[j]? = some y := by rfl)
    (lx : X.env.scope.names.lookup x = some .local := by rfl) (ly : X.env.scope.names.lookup y = some .local := by rfl) (hs : swapsWithSole [.Tuple [.Name x px, .Name y py] kt pt] (.Tuple [a, .Constant .none k7 p7] k2 pt2) pos.line X.env = pure false := by rfl)
    (hs1 : starEach [a, .Constant .none k7 p7] X.env = (false, eval a X.env) :: starEach [.Constant .none k7 p7] X.env := by rfl) (hs2 : starEach [.Constant .none k7 p7] X.env = (false, eval (.Constant .none k7 p7) X.env) :: starEach [] X.env := by rfl) :
    SV X io E mk kr (.Assign [.Tuple [.Name x px, .Name y py] kt pt] (.Tuple [a, .Constant .none k7 p7] k2 pt2) pos) (sPar i j (mCons m1 (mCons (mC .non) mNil))) := (ps_par hc hN hx hy hij lx ly (pa_cons ha (pa_cons pe_non pa_nil hs2) hs1) hw hs).imp fun D σ H h => by
  obtain ⟨g, F, e, rt, l, h⟩ := h
  refine ⟨g, F, e, rt, l, ?_⟩
  unfold sPar mCons mNil mC at h
  cases q : m1 e with
  | exc c fs => rw [q] at h; exact h σ rfl
  | stk => rw [q] at h; exact h
  | ok d1 e1 =>
    rw [q] at h
    simp only [R.bind_ok, R.st_ok] at h
    intro v1 H1 r
    obtain ⟨F1, rt1, rs, s1, l1, k1, n1, o1⟩ := r.ex
    refine ⟨v1, .non, rfl, ?_⟩
    obtain ⟨rt2, l2⟩ := l1.set (i := i) hi1 (by rw [hk1]; exact k1) n1 o1
    obtain ⟨rt3, l3⟩ := l2.set (i := j) (d := .non) (v := .non) (rs := []) hi2 (by rw [hk2]; exact ⟨Rep.non, rfl⟩) .nil (fun p hp => by cases hp)
    exact h _ F1 rt3 H1 (by simp) s1 l3
end
end L3

noncomputable section
/-! # L4F: a list unpacked -/
namespace L3
open PySem PySem.Spec L2
open PyProof.Rows hiding St
section
variable {X : Cx} {io : List Nat} {E : WX} {mk : List Kd}
def gfL (a : List D → Env3 → Option Env3) : D → Env3 → Option Env3 := fun d e => match d with
  | .lst ds => a ds e
  | _ => none
/-- (a, b, ..) = a list, frozen -/
theorem gv_unl {es : List Expr} {k : Nat} {pos : Pos} {b : List D → Env3 → Option Env3} {ts : List Nat} (n : Nat) (hc : X.calm = true) (h : GS X io mk es ts b) (hl : ∀ ds e e', b ds e = some e' → ds.length = n)
    (hn : (assignEach es X.env).length = n := by rfl) (hst : (assignEach es X.env).findIdx? (·.1) = none := by rfl) : GV X io mk (.Tuple es k pos) ts (gfL b) := (pg_unl hc h hn hst).imp fun v σ H Q h => by
  obtain ⟨g, F, e, rt, d, l, r, h⟩ := h
  cases d with
  | lst ds =>
    simp only [Rep] at r
    obtain ⟨a, vs, ev, q, r⟩ := r
    simp only [gfL] at h
    cases q2 : b ds e with
    | none => rw [q2] at h; exact h.elim
    | some e1 =>
      rw [q2] at h
      refine ⟨a, vs, ev, .inl (.inl (l.fr.sub _ _ q)), by rw [← r.length]; exact hl ds e e1 q2, g, F, e, rt, ds, l, r, ?_⟩
      rw [q2]
      exact h
  | _ => exact h.elim
end
end L3

noncomputable section
/-! # L4G: sorted(..) of tuples of numbers -/
namespace L3
open PySem PySem.Spec L2
open PyProof.Rows hiding St
/-- the numbers of a tuple -/
def intsD : D → List Int
  | .tup xs => xs.map fun | .int i => i | _ => 0
  | _ => []
def isI : D → Bool
  | .int i => decide (0 ≤ i ∧ i < 1048576)
  | _ => false
/-- a tuple of so many numbers from 0 to 1048575 -/
def tupOk (n : Nat) : D → Bool
  | .tup xs => xs.all isI && decide (xs.length = n)
  | _ => false
def leI (a b : D) : Bool := decide (TS.code 1048576 (intsD a) ≤ TS.code 1048576 (intsD b))
def anyI : D → Bool
  | .int _ => true
  | _ => false
def intsL (xs : List D) : List Int := xs.map fun | .int i => i | _ => 0
def leN (a b : Int) : Bool := decide (a ≤ b)
def dSorted : D → Option (List D)
  | .lst xs => if xs.length ≤ 1 then some xs else if xs.all anyI then some (((intsL xs).mergeSort leN).map .int) else if decide (xs.length < 64) && (decide (1 ≤ (xs.headD .non |> intsD).length) && xs.all (tupOk (xs.headD .non |> intsD).length)) then some (xs.mergeSort leI) else none
  | _ => none
theorem leN_trans (a b c : Int) (h1 : leN a b = true) (h2 : leN b c = true) : leN a c = true := by
  unfold leN at *
  simp only [decide_eq_true_eq] at *
  omega
theorem leN_total (a b : Int) : (leN a b || leN b a) = true := by
  unfold leN
  simp only [Bool.or_eq_true, decide_eq_true_eq]
  omega
theorem intsL_map (ns : List Int) : intsL (ns.map .int) = ns := by
  unfold intsL
  rw [List.map_map]
  exact List.map_id'' (fun _ => rfl) ns
theorem anyI_map : ∀ {xs : List D}, xs.all anyI = true → xs = (intsL xs).map .int
  | [], _ => rfl
  | x :: xs, h => by
    simp only [List.all_cons, Bool.and_eq_true] at h
    have ih := anyI_map h.2
    cases x with
    | int i =>
      show _ :: _ = D.int i :: (intsL xs).map .int
      rw [← ih]
    | _ => simp [anyI] at h
theorem dSorted_ints (ns : List Int) : dSorted (.lst (ns.map .int)) = some ((ns.mergeSort leN).map .int) := by
  have ha : (ns.map D.int).all anyI = true := by
    rw [List.all_map]
    exact List.all_eq_true.mpr fun _ _ => rfl
  show (if (ns.map D.int).length ≤ 1 then some (ns.map D.int) else if (ns.map D.int).all anyI = true then _ else _) = _
  by_cases h : (ns.map D.int).length ≤ 1
  · rw [if_pos h]
    rw [List.length_map] at h
    match ns, h with
    | [], _ => simp
    | [x], _ => simp
  · rw [if_neg h, if_pos ha, intsL_map]
theorem leI_trans (a b c : D) (h1 : leI a b = true) (h2 : leI b c = true) : leI a c = true := by
  unfold leI at *
  simp only [decide_eq_true_eq] at *
  omega
theorem leI_total (a b : D) : (leI a b || leI b a) = true := by
  unfold leI
  simp only [Bool.or_eq_true, decide_eq_true_eq]
  omega
theorem code_inj : ∀ {ns ms : List Int}, ns.length = ms.length → TS.Bd 1048576 ns → TS.Bd 1048576 ms → TS.code 1048576 ns = TS.code 1048576 ms → ns = ms
  | [], [], _, _, _, _ => rfl
  | [], _ :: _, h, _, _, _ => by simp at h
  | _ :: _, [], h, _, _, _ => by simp at h
  | n :: ns, m :: ms, h, b1, b2, e => by
    have hl : ns.length = ms.length := by simpa using h
    rcases Int.lt_trichotomy n m with z | z | z
    · have := TS.code_lt hl b1.tail b2.tail z
      omega
    · subst z
      have e2 : TS.code 1048576 ns = TS.code 1048576 ms := by
        simp only [TS.code, hl] at e
        omega
      rw [code_inj hl b1.tail b2.tail e2]
    · have := TS.code_lt hl.symm b2.tail b1.tail z
      omega
theorem tupOk_ints {n : Nat} {d : D} (h : tupOk n d = true) : d = .tup ((intsD d).map .int) ∧ (intsD d).length = n ∧ TS.Bd 1048576 (intsD d) := by
  cases d with
  | tup xs =>
    simp only [tupOk, Bool.and_eq_true, decide_eq_true_eq, List.all_eq_true] at h
    have he : ∀ x ∈ xs, ∃ i : Int, x = .int i ∧ 0 ≤ i ∧ i < 1048576 := fun x hx => by
      have := h.1 x hx
      cases x <;> simp only [isI, decide_eq_true_eq, Bool.false_eq_true] at this
      exact ⟨_, rfl, this⟩
    refine ⟨?_, by simp [intsD, h.2], fun m hm => ?_⟩
    · show D.tup xs = .tup ((xs.map _).map D.int)
      rw [List.map_map]
      refine congrArg D.tup ?_
      have : ∀ x ∈ xs, (D.int ∘ fun | .int i => i | _ => 0) x = x := fun x hx => by
        obtain ⟨i, rfl, _⟩ := he x hx
        rfl
      exact (List.map_id'' (l := xs) (f := id) (fun _ => rfl)).symm.trans (List.map_congr_left fun x hx => (this x hx).symm) |>.trans rfl
    · obtain ⟨x, hx, rfl⟩ := List.mem_map.mp hm
      obtain ⟨i, rfl, h1⟩ := he x hx
      exact h1
  | _ => simp [tupOk] at h
theorem repL_perm {W : Kx} {F : Hp} : ∀ {vs ys : List V}, vs.Perm ys → ∀ {ds : List D}, RepL W F ds vs → ∃ ds', ds'.Perm ds ∧ RepL W F ds' ys := by
  intro vs ys h
  induction h with
  | nil => intro ds r; exact ⟨ds, .refl _, r⟩
  | cons x _ ih =>
    intro ds r
    cases ds with
    | nil => simp [RepL] at r
    | cons d ds =>
      simp only [RepL] at r
      obtain ⟨v, w, e, r1, r2⟩ := r
      cases e
      obtain ⟨ds', p, r'⟩ := ih r2
      exact ⟨d :: ds', p.cons d, .cons r1 r'⟩
  | swap x y l =>
    intro ds r
    cases ds with
    | nil => simp [RepL] at r
    | cons d ds =>
      cases ds with
      | nil => simp [RepL] at r
      | cons d2 ds =>
        simp only [RepL] at r
        obtain ⟨v, w, e, r1, v2, w2, e2, r2, r3⟩ := r
        cases e
        cases e2
        exact ⟨d2 :: d :: ds, .swap _ _ _, .cons r2 (.cons r1 r3)⟩
  | trans _ _ ih1 ih2 =>
    intro ds r
    obtain ⟨ds', p, r'⟩ := ih1 r
    obtain ⟨ds2, p2, r2⟩ := ih2 r'
    exact ⟨ds2, p2.trans p, r2⟩
/-- sorted(xs) of one thing at most -/
def rSort1 (K : PySem.W.Frag) : List V → Hp → VK → Prop := fun vs H Q => ∃ (a : Addr) (xs : List V), vs = [V.ref a] ∧ SqL K H a xs ∧ xs.length ≤ 1 ∧ ∀ (p : Addr), H p = none → Q (.ref p) (upd H p (.lst xs))
theorem cr_sort1 {X : Cx} : CallR X (.builtin "sorted") (rSort1 X.K) := by
  intro pins s σ H vs us Q I r h
  obtain ⟨a, xs, rfl, hs, h1, q⟩ := h
  obtain ⟨its, rv, hl, hz⟩ := I.list hs
  rw [Vals.ref1 r]
  refine SrtO.sorted_ord SrtO.swo_int hl.isList (by rw [← rv.length]; exact hz) (fun h2 => by have := rv.length; omega) fun out h1' h2 => ?_
  have hp : out.Perm its := h2.perm
  have e : out = its := by
    have hl' := hp.length_eq
    have hi := rv.length
    match its, out, hl', hp with
    | [], [], _, _ => rfl
    | [x], [y], _, hp => rw [List.perm_singleton.mp hp]
    | _ :: _ :: _, _, _, _ => simp at hi; omega
  subst e
  obtain ⟨ep, he'⟩ := PyProof.Rows.sortedAll_at s.heap out out.toArray
  exact ⟨.ref _, upd H (s.heap.objs.size + 1) (.lst xs), I.laid (t' := s.toks) (fun _ _ => PyProof.Rows.sortedAll_old) (Nat.le_succ _) ⟨hz, out, ep, rv, he'⟩, rfl, q _ (I.hok.fresh (Nat.le_succ _))⟩
def rSrt (K : PySem.W.Frag) : List V → Hp → VK → Prop := fun vs H Q => rSort1 K vs H Q ∨ rSortedI K vs H Q ∨ ∃ d, 1 ≤ d ∧ rSortU K d 1048576 vs H Q
theorem call_sorted {X : Cx} : CallR X (.builtin "sorted") (rSrt X.K) := by
  intro pins s σ H vs us Q I r h
  rcases h with h | h | ⟨d, hd, h⟩
  · exact cr_sort1 pins s σ H vs us Q I r h
  · exact cr_sortedI pins s σ H vs us Q I r h
  · exact cr_sortT hd pins s σ H vs us Q I r h
theorem repL_mem {W : Kx} {F : Hp} : ∀ {ds : List D} {vs : List V}, RepL W F ds vs → ∀ {v}, v ∈ vs → ∃ d ∈ ds, Rep W F d v
  | [], vs, r, v, h => by simp only [RepL] at r; subst r; cases h
  | d :: ds, vs, r, v, h => by
    simp only [RepL] at r
    obtain ⟨v', w, rfl, r1, r2⟩ := r
    rcases List.mem_cons.mp h with rfl | h
    · exact ⟨d, .head _, r1⟩
    · obtain ⟨d', hd, r'⟩ := repL_mem r2 h
      exact ⟨d', .tail _ hd, r'⟩
theorem rep_ints {W : Kx} {F : Hp} : ∀ {ns : List Int} {vs : List V}, RepL W F (ns.map .int) vs → vs = ns.map V.int
  | [], vs, r => by simpa [RepL] using r
  | n :: ns, vs, r => by
    simp only [List.map_cons, RepL] at r
    obtain ⟨v, w, rfl, r1, r2⟩ := r
    rw [rep_ints r2]
    simp only [Rep] at r1
    rw [r1]; rfl
theorem tupI_of {W : Kx} {F H : Hp} (hs : Same F H) {n : Nat} {d : D} {v : V} (h : tupOk n d = true) (r : Rep W F d v) : TupI W.K H v (intsD d) := by
  obtain ⟨e, _⟩ := tupOk_ints h
  rw [e] at r
  simp only [Rep] at r
  obtain ⟨a, vs, rfl, q, l⟩ := r
  rw [rep_ints l] at q
  exact ⟨a, rfl, sqT_mono hs q⟩
theorem leI_pw {W : Kx} {F H : Hp} (hs : Same F H) {n : Nat} : ∀ {ds : List D} {ys : List V}, RepL W F ds ys → (∀ d ∈ ds, tupOk n d = true) → ys.Pairwise (fun x y => ∀ a b, TupI W.K H x a → TupI W.K H y b → TS.code 1048576 a ≤ TS.code 1048576 b) → ds.Pairwise fun a b => leI a b = true
  | [], _, _, _, _ => .nil
  | d :: ds, ys, r, h, p => by
    simp only [RepL] at r
    obtain ⟨v, w, rfl, r1, r2⟩ := r
    obtain ⟨p1, p2⟩ := List.pairwise_cons.mp p
    refine List.pairwise_cons.mpr ⟨fun d' hd' => ?_, leI_pw hs r2 (fun d hd => h d (.tail _ hd)) p2⟩
    obtain ⟨i, hi, rfl⟩ := List.getElem_of_mem hd'
    have hl := r2.length
    have hm : ∃ v', v' ∈ w ∧ Rep W F ds[i] v' := by
      clear p p1 p2 r1 h hl hd'
      induction ds generalizing w i with
      | nil => cases hi
      | cons x xs ih =>
        simp only [RepL] at r2
        obtain ⟨v', w', rfl, q1, q2⟩ := r2
        cases i with
        | zero => exact ⟨v', .head _, q1⟩
        | succ i =>
          obtain ⟨v2, m2, z⟩ := ih w' q2 i (by simpa using hi)
          exact ⟨v2, .tail _ m2, z⟩
    obtain ⟨v', hm, r'⟩ := hm
    exact decide_eq_true (p1 v' hm _ _ (tupI_of hs (h d (.head _)) r1) (tupI_of hs (h _ (.tail _ hd')) r'))
theorem new_sorted {X : Cx} : NewFn (kx X) (rSrt X.K) (f1N dSorted) := new1 fun F H d zs v Q hs r hf hq => by
  cases d with
  | lst xs =>
    simp only [dSorted] at hf
    obtain ⟨a, vs, rfl, q, l⟩ := r.lst hs
    split at hf
    · rename_i h1
      cases hf
      exact .inl ⟨a, vs, rfl, SqL.of q, by rw [← l.length]; exact h1, fun p hp => hq p vs hp l⟩
    · rename_i h1
      split at hf
      · rename_i h0
        cases hf
        have e := anyI_map h0
        rw [e] at l
        have ev := rep_ints l
        refine .inr (.inl ⟨a, intsL xs, rfl, SqL.of (by rw [← ev]; exact q), fun ns' p hp hpw hn => ?_⟩)
        have en : ns' = (intsL xs).mergeSort leN := by
          refine List.Perm.eq_of_pairwise (le := fun a b => leN a b = true) (fun x y _ _ h1 h2 => ?_) (hpw.imp fun h => decide_eq_true h) (List.pairwise_mergeSort leN_trans leN_total _) (hp.trans (List.mergeSort_perm _ leN).symm)
          unfold leN at h1 h2
          simp only [decide_eq_true_eq] at h1 h2
          omega
        refine hq p _ hn ?_
        rw [← en]
        clear hp hpw en
        induction ns' with
        | nil => exact .nil
        | cons n ns' ih => exact .cons (show Rep _ _ _ _ by simp [Rep]) ih
      split at hf
      · rename_i h2
        cases hf
        simp only [Bool.and_eq_true, decide_eq_true_eq, List.all_eq_true] at h2
        obtain ⟨h64, hd1, hall⟩ := h2
        refine .inr (.inr ⟨_, hd1, a, vs, rfl, SqL.of q, by rw [← l.length]; exact h64, fun x hx => ?_, fun ys p hp hpw hn => ?_⟩)
        · obtain ⟨d, hd, rd⟩ := repL_mem l hx
          obtain ⟨_, e2, e3⟩ := tupOk_ints (hall d hd)
          exact ⟨_, tupI_of hs (hall d hd) rd, e2, e3⟩
        · obtain ⟨ds', p1, r'⟩ := repL_perm hp.symm l
          have ok' : ∀ d ∈ ds', tupOk _ d = true := fun d hd => hall d (p1.mem_iff.mp hd)
          have pw := leI_pw hs r' ok' hpw
          have e : ds' = xs.mergeSort leI := by
            refine List.Perm.eq_of_pairwise (le := fun a b => leI a b = true) (fun x y hx hy h1 h2 => ?_) pw (List.pairwise_mergeSort leI_trans leI_total xs) (p1.trans (List.mergeSort_perm xs leI).symm)
            have ox := tupOk_ints (ok' x hx)
            have oy := tupOk_ints (hall y ((List.mergeSort_perm xs leI).mem_iff.mp hy))
            unfold leI at h1 h2
            simp only [decide_eq_true_eq] at h1 h2
            rw [ox.1, oy.1, code_inj (ox.2.1.trans oy.2.1.symm) ox.2.2 oy.2.2 (by omega)]
          exact hq p ys hn (e ▸ r')
      · cases hf
  | _ => simp [dSorted] at hf
end L3

noncomputable section
/-! # L4H: insert -/
namespace L3
open PySem PySem.Spec L2
open PyProof.Rows hiding St
section
variable {X : Cx} {io : List Nat} {E : WX} {mk : List Kd} {kr : Kd} {W : Kx}
variable {o e0 : Expr} {es : List Expr} {x : Str} {np apos cpos spos : Pos} {ms : M (List D)} {os : List Op3}
def rInsert : V → List V → Hp → VK → Prop := fun x vs H Q => ∃ (l : Addr) (xs : List V) (i : Int) (y : V), x = .ref l ∧ vs = [.int i, y] ∧ H l = some (.lst xs) ∧ xs.length < sizeLine ∧ 0 ≤ i ∧ i < 2 ^ 63 ∧ Q .non (upd H l (.lst (xs.take i.toNat ++ [y] ++ xs.drop i.toNat)))
def muInsert : List D → List D → Option (List D) := fun xs ds => match ds with
  | [.int i, d] => if xs.length < sizeLine ∧ 0 ≤ i ∧ i ≤ 1000000 then some (xs.take i.toNat ++ [d] ++ xs.drop i.toNat) else none
  | _ => none
theorem mut_insert : MutOk W rInsert muInsert := by
  intro F H xs ds ys p vs ws Q hs q1 q2 r rs hf hq
  unfold muInsert at hf
  split at hf
  · rename_i i d
    split at hf
    · rename_i hz
      cases hf
      simp only [RepL] at rs
      obtain ⟨v, w, rfl, r1, v2, w2, rfl, r2, rfl⟩ := rs
      simp only [Rep] at r1
      subst r1
      exact ⟨p, vs, i, v2, rfl, rfl, q1, by rw [← r.length]; exact hz.1, hz.2.1, by omega, hq _ _ (((r.take _).append (.cons r2 .nil)).append (r.drop _))⟩
    · cases hf
  · cases hf
theorem sv_insert (i : Nat) (hx : PE X (.Name x np) (tVar i)) (ha : AV X io E mk (e0 :: es) ms os) (hi : mk.getD i .fr = .own .fr := by rfl) (ho : allEx os = true := by rfl)
    (hbase : attributeBase (.Name x np) "insert" X.env (eval (.Name x np) X.env) = eval (.Name x np) X.env := by rfl) (hline : (apos.endLine == cpos.line) = true := by rfl)
    (hfew : ((backTo cpos (starEach (e0 :: es) X.env)).all (fun x => !x.1) && (backToKw cpos (keywordEach [] X.env)).all (fun x => x.1.isSome)
      && decide ((e0 :: es).length + ([] : List Keyword).length + (if ([] : List Keyword).isEmpty then 0 else 1) < 30)) = true := by rfl) (hs : starEach (e0 :: es) X.env = (false, eval e0 X.env) :: starEach es X.env := by rfl)
    (hplain : (backTo cpos (starEach es X.env)).any (·.1) = false := by rfl)
    (hsw : swapsWith (.Call (.Attribute (.Name x np) "insert" apos) (e0 :: es) [] cpos) none spos.line X.env = pure false := by rfl) :
    SV X io E mk kr (.Expr (.Call (.Attribute (.Name x np) "insert" apos) (e0 :: es) [] cpos) spos) (sMut i muInsert ms) :=
  (ps_expr (pe_bm (T := "list") (name := "insert") (id := "list.insert") PySem.F.plainAttrs_list PySem.F.slot_list_insert PySem.F.type_list_insert (mt_insert : MtR X "list.insert" rInsert) hx ha hbase hfew hline hs hplain) hsw).imp fun D' σ H h => sMut_of (W := kx X) rfl mut_insert hi ho h
end
end L3

noncomputable section
/-! # L4I: text.replace of written texts, in a def with a docstring -/
namespace L3
open PySem PySem.Spec L2
open PyProof.Rows hiding St
section
variable {X : Cx} {io : List Nat} {E : WX} {mk : List Kd} {kr : Kd}
def EVT (X : Cx) (io : List Nat) (E : WX) (mk : List Kd) (e : Expr) (m : M D) (k : Kd) : Prop := PET X e (tE (kx X) io E mk m k)
theorem PET.imp {X : Cx} {e : Expr} {t t' : TE} (h : PET X e t) (w : ∀ σ H Q, t' σ H Q → t σ H Q) : PET X e t' := fun pins s σ H Q h0 I q => h pins s σ H Q h0 I (w σ H Q q)
/-- a test behind which a token is out -/
def PTT (X : Cx) (e : Expr) (t : TT) : Prop :=
  ∀ (pins : List (Addr × Obj)) (s : Shared) (σ : St) (H : Hp) (Q : Bool → Hp → Prop), Inv X pins σ H s → t σ H Q → wpAny (model X.prog X.w) X.A (isTrue e X.env (eval e X.env)) (fun d s1 => 1 ≤ s1.toks ∧ TP X pins σ Q d s1) X.xe s
theorem PTT.imp {X : Cx} {e : Expr} {t t' : TT} (h : PTT X e t) (w : ∀ σ H Q, t' σ H Q → t σ H Q) : PTT X e t' := fun pins s σ H Q I q => h pins s σ H Q I (w σ H Q q)
theorem ptt_cmpR {op : CmpOp} {r : R2} {a : Expr} {ta tb : TE} {x : Str} {j : Nat} {cp pos : Pos} (ho : OpR X (compareOp op) r) (ha : PE X a ta) (hb : PE X (.Constant (.str x) j cp) tb) (hm : behindInMarks op (.Constant (.str x) j cp) = false) : PTT X (.Compare a [op] [.Constant (.str x) j cp] pos) (tTest (tOp r ta tb)) := by
  intro pins s σ H Q I h
  refine wpAny_isTrue_Compare1 (thn (ha.run pins s σ H _ I h) fun v s1 ⟨y, H1, I1, r1, q1⟩ => ?_) hm
  have h1 := hb.run pins s1 σ H1 _ I1 q1
  have hc : wpAny (model X.prog X.w) X.A (eval (.Constant (.str x) j cp) X.env) (fun u s2 => 1 ≤ s2.toks ∧ EP X pins σ (fun y1 H2 => r y y1 H2 fun x H' => ∃ k, x = V.bl k ∧ Q k H') u s2) X.xe s1 := fun Γ p hΓ => ⟨by show 1 ≤ s1.toks + 1; omega, h1 Γ p hΓ⟩
  refine thn hc fun u s2 ⟨ht, z, H2, I2, r2, q2⟩ => ?_
  refine wpAny_mono (PySem.wpAny_toks_of ht (ho pins s2 σ H2 y z v u _ I2 r1 r2 q2)) (fun c s3 ⟨ht3, z3, H3, I3, r3, k, e, q3⟩ => ?_) fun _ _ z => z.2
  subst e
  cases r3
  exact wpAny_truthy_bool ⟨ht3, H3, I3, q3⟩
def TVT (X : Cx) (io : List Nat) (E : WX) (mk : List Kd) (e : Expr) (m : M Bool) : Prop := PTT X e (tT (kx X) io E mk m)
theorem tvt_cmp {op : CmpOp} {r : R2} {a : Expr} {x : Str} {j : Nat} {cp pos : Pos} {ma mb : M D} {oa ob : Op3} {f : D → D → Option D} (ho : OpR X (compareOp op) r) (hp : PureOp (kx X) r f) (ha : OV X io E mk a ma oa) (hb : OV X io E mk (.Constant (.str x) j cp) mb ob)
    (hm : behindInMarks op (.Constant (.str x) j cp) = false) (ka : opsOk mk oa = true := by rfl) (kb : opsOk mk ob = true := by rfl) : TVT X io E mk (.Compare a [op] [.Constant (.str x) j cp] pos) (mB (m2 oa ob f ma mb)) :=
  PTT.imp (ptt_cmpR ho ha hb hm) fun σ H Q h => by
    have h2 := tB_of Q h
    exact t2_of (W := kx X) hp ka kb (fun x H' => ∃ k, x = V.bl k ∧ Q k H') h2
theorem pe_ifExpT {c a b : Expr} {pos : Pos} {tA : TT} {ta tb : TE} (hc : PTT X c tA) (ha : PE X a ta) (hb : PET X b tb) : PE X (.IfExp c a b pos) (tIf tA ta tb) := by
  refine ⟨fun pins s σ H Q I h => ?_⟩
  refine wpAny_IfExp (thn (hc pins s σ H _ I h) fun d s1 ⟨hk, H1, I1, q1⟩ => ?_)
  cases d with
  | true => exact ha.run pins s1 σ H1 Q I1 q1
  | false => exact hb pins s1 σ H1 Q hk I1 q1
theorem ev_ifT {c a b : Expr} {pos : Pos} {t : M Bool} {ma mb : M D} {k : Kd} (hc : TVT X io E mk c t) (ha : EV X io E mk a ma k) (hb : EVT X io E mk b mb k) : EV X io E mk (.IfExp c a b pos) (mIf t ma mb) k :=
  (pe_ifExpT hc ha hb).imp fun σ H Q h => by
    obtain ⟨g, F, e, rt, l, h⟩ := h
    refine ⟨g, F, e, rt, l, ?_⟩
    unfold mIf at h
    cases q : t e with
    | exc c fs => rw [q] at h; exact h
    | stk => rw [q] at h; exact h
    | ok d e1 =>
      rw [q] at h
      intro F1 rt1 H1 s1 l1
      cases d with
      | true =>
        simp only [R.bind_ok, if_true] at h ⊢
        refine ⟨g, F1, e1, rt1, l1, ?_⟩
        cases q2 : ma e1 with
        | exc c fs => rw [q2] at h; exact Exq.mono s1 h
        | stk => rw [q2] at h; exact h
        | ok d2 e2 => rw [q2] at h; exact fun v2 H2 r2 => h v2 H2 (r2.mono s1)
      | false =>
        simp only [R.bind_ok, Bool.false_eq_true, if_false] at h ⊢
        refine ⟨g, F1, e1, rt1, l1, ?_⟩
        cases q2 : mb e1 with
        | exc c fs => rw [q2] at h; exact Exq.mono s1 h
        | stk => rw [q2] at h; exact h
        | ok d2 e2 => rw [q2] at h; exact fun v2 H2 r2 => h v2 H2 (r2.mono s1)
/-- x.replace(y, z), y and z written -/
def mReplC (y z : List Nat) (m : M D) : M D := fun e => (m e).bind fun d e1 => match d with
  | .str s => if s.length ≤ 100000 ∧ z.length ≤ 10 then .ok (.str (PySem.StrLaws.replL y z s)) e1 else .stk
  | _ => .stk
theorem evt_repl (y z : List Nat) {c1s c2s : Str} {o : Expr} {m : M D} {j k : Nat} {c0 c1 apos pos : Pos} (ho : EV X io E mk o m .fr) (hs1 : c1s = S y := by decide +kernel) (hs2 : c2s = S z := by decide +kernel) (hy : 1 ≤ y.length := by decide) (hyz : (c1s == c2s) = false := by decide +kernel)
    (hst : starEach [.Constant (.str c1s) j c0, .Constant (.str c2s) k c1] X.env = [(false, eval (.Constant (.str c1s) j c0) X.env), (false, eval (.Constant (.str c2s) k c1) X.env)] := by rfl)
    (hbase : attributeBase o "replace" X.env (eval o X.env) = eval o X.env := by rfl) (hline : (apos.endLine == pos.line) = true := by rfl) :
    EVT X io E mk (.Call (.Attribute o "replace" apos) [.Constant (.str c1s) j c0, .Constant (.str c2s) k c1] [] pos) (mReplC y z m) .fr := by
  subst hs1 hs2
  exact PET.imp (CwR.pet_replC ho hyz hst hbase hline) fun σ H Q h => by
    obtain ⟨g, F, e, rt, l, h⟩ := h
    refine ⟨g, F, e, rt, l, ?_⟩
    unfold mReplC at h
    cases q : m e with
    | exc c fs => rw [q] at h; exact h
    | stk => rw [q] at h; exact h
    | ok d e1 =>
      rw [q] at h
      intro v H1 r
      simp only [R.bind_ok] at h
      cases d with
      | str s =>
        dsimp only at h
        by_cases hz : s.length ≤ 100000 ∧ z.length ≤ 10
        · rw [if_pos hz] at h
          obtain ⟨F1, rt1, rs, h1, l1, k, n, o⟩ := r.ex
          have ev : v = .str (S s) := by
            have := k.1
            simpa [Rep] using this
          have hlen : ∀ l : List Nat, (S l).length = l.length := fun l => by simp [S, Str.length]
          refine ⟨S s, ev, ?_, ?_⟩
          · rw [hlen, hlen]
            have : (s.length + 1) * z.length ≤ 100001 * 10 := Nat.mul_le_mul (by omega) hz.2
            omega
          · have e : Txt.replace (S s) (S y) (S z) = S (PySem.StrLaws.replL y z s) := by
              have h2 := PySem.StrLaws.replace_list (x := S s) (y := S y) (z := S z) (by rw [hlen]; exact hy)
              have e2 : ∀ l : List Nat, (S l).cps.toList = l := fun l => by simp [S]
              rw [e2, e2, e2] at h2
              have h3 : (Txt.replace (S s) (S y) (S z)).cps = (PySem.StrLaws.replL y z s).toArray := by rw [← h2]
              show _ = (⟨(PySem.StrLaws.replL y z s).toArray⟩ : Str)
              rw [← h3]
            rw [e]
            exact h _ H1 ⟨F1, rt1, [], h1, l1, ⟨by simp [Rep], rfl⟩, .nil, fun p hp => by cases hp⟩
        · rw [if_neg hz] at h
          exact h.elim
      | _ => exact h.elim
end
/-! ### what is left to show -/
section
variable {K : D → Env3 → Prop} {Y : KX} {e : Env3} {m : M D}
def OpRp (y z : List Nat) (d : D) (K : D → Prop) (_t : Tg K := .mk) : Prop := match d with
  | .str s => (s.length ≤ 100000 ∧ z.length ≤ 10) ∧ K (.str (PySem.StrLaws.replL y z s))
  | _ => False
theorem OpRp_str {y z s : List Nat} {K : D → Prop} : OpRp y z (.str s) K = ((s.length ≤ 100000 ∧ z.length ≤ 10) ∧ K (.str (PySem.StrLaws.replL y z s))) := rfl
theorem Ok_ReplC {y z : List Nat} : Ok (mReplC y z m e) K Y = Ok (m e) (fun d e1 => OpRp y z d fun d => K d e1) Y := by
  unfold mReplC
  rw [Ok_bind]; refine Ok_ext fun d e1 => ?_
  cases d with
  | str s =>
    show Ok (if s.length ≤ 100000 ∧ z.length ≤ 10 then R.ok (D.str (PySem.StrLaws.replL y z s)) e1 else R.stk) K Y = _
    by_cases h : s.length ≤ 100000 ∧ z.length ≤ 10
    · rw [if_pos h]; exact propext ⟨fun z => ⟨h, z⟩, fun z => z.2⟩
    · rw [if_neg h]; exact propext ⟨fun z => z.elim, fun z => absurd z.1 h⟩
  | _ => rfl
end
end L3

noncomputable section
/-! # L4J: text.split(sep), str(number) -/
namespace L3
open PySem PySem.Spec L2
open PyProof.Rows hiding St
section
variable {X : Cx} {F H : Hp} {W : Kx}
/-- the words of a text between separators -/
def splitD (s sep : List Nat) : List (List Nat) := (Txt.split (S s) (S sep)).map fun y => y.cps.toList
def dSplit : D → List D → Option D := fun d ds => match d, ds with
  | .str s, [.str sep] => if 0 < sep.length ∧ s.length ≤ 100000 then some (.lst ((splitD s sep).map .str)) else none
  | _, _ => none
theorem repL_strs : ∀ ys : List Str, RepL W F ((ys.map fun y => y.cps.toList).map .str) (ys.map V.str)
  | [] => .nil
  | y :: ys => by
    refine .cons ?_ (repL_strs ys)
    have e : S y.cps.toList = y := by
      show (⟨y.cps.toList.toArray⟩ : Str) = y
      rw [Array.toArray_toList]
    simp only [Rep, e]
theorem pure_split : PureMt (kx X) (fun x xs H Q => ∃ a b, x = .str a ∧ xs = [.str b] ∧ (b.length == 0) = false ∧ a.length + 2 ≤ sizeLine ∧ rNewStrs (Txt.split a b) H Q) dSplit := by
  intro F H d ds z v vs Q hs r rs hf hq
  unfold dSplit at hf
  split at hf
  · rename_i s sep
    obtain ⟨u, rfl, ru⟩ := repTs1 rs
    split at hf
    · rename_i hz
      cases hf
      have hb : ((S sep).length == 0) = false := by
        rw [S_len]
        exact beq_false_of_ne (by omega)
      have hl : (S s).length + 2 ≤ sizeLine := by
        rw [S_len]
        exact Nat.le_trans (show s.length + 2 ≤ 100002 by omega) (by decide)
      refine ⟨S s, S sep, r.str, by rw [ru.str], hb, hl, fun p hp => ?_⟩
      exact hq.new hs p _ hp (repL_strs _)
    · cases hf
  · cases hf
/-- str(number) -/
def dStrI : D → Option D
  | .int i => if i.natAbs < 1000000000000000000000000000000 then some (.str ((toString i : String) : Str).cps.toList) else none
  | _ => none
theorem pure_strI : PureFn (kx X) (fun xs H Q => ∃ i, xs = [.int i] ∧ i.natAbs.log2 < 1920 ∧ Q (.str (toString i)) H) (f1 dStrI) := pure1 fun F H d z v Q hs r hf hq => by
  cases d with
  | int i =>
    simp only [dStrI] at hf
    split at hf
    · rename_i h
      cases hf
      refine ⟨i, by rw [r.int], int_log h, ?_⟩
      have e : S ((toString i : String) : Str).cps.toList = ((toString i : String) : Str) := by
        show (⟨((toString i : String) : Str).cps.toList.toArray⟩ : Str) = _
        rw [Array.toArray_toList]
      have := hq.here hs (v := .str (S ((toString i : String) : Str).cps.toList)) Rep.str
      rw [e] at this
      exact this
    · cases hf
  | _ => simp [dStrI] at hf
end
end L3

noncomputable section
/-! # L4K: written dicts of the module, texts to texts -/
namespace L3
open PySem PySem.Spec L2
open PyProof.Rows hiding St
/-- a written dict of the module -/
def TabD (K : PySem.W.Frag) (w : World) (mg : Str → Option Value) (x : Str) (tab : List (List Nat × List Nat)) : Prop :=
  ∃ p, mg x = some (.ref p) ∧ He.dicW K p = some (He.keysIn w.params (tab.map fun q => S q.1)) ∧ ∀ q ∈ tab, ∃ t, PySem.W.nsIn K p (S q.1) = some (some (.str (S q.2) t))
theorem nsIn_tab {K : PySem.W.Frag} {P : Params} {p : Addr} {ks : List Str} (h : He.dicW K p = some (He.keysIn P ks)) (z : Str) : ∃ r, PySem.W.nsIn K p z = some r ∧ r.isSome = ks.any fun k => k == z := by
  unfold He.dicW at h
  cases q : K.lookup p with
  | none => rw [q] at h; cases h
  | some o =>
    obtain ⟨oc, od, dt, osl⟩ := o
    rw [q] at h
    cases oc with
    | type c =>
      cases od with
      | none =>
        cases dt with
        | dict es n =>
          dsimp only at h
          split at h
          · have hk : es.toList.map He.keyOf = He.keysIn P ks := Option.some.inj h
            have main : ∀ (l : List DictEntry) (ks : List Str), l.map He.keyOf = He.keysIn P ks → ∃ r, (match l.find? (·.key.isStr z) with | some e => some (some e.val) | none => if l.any (·.refKey) then none else some none) = some r ∧ r.isSome = ks.any fun k => k == z := by
              intro l
              induction l with
              | nil =>
                intro ks hk
                cases ks with
                | nil => exact ⟨none, rfl, rfl⟩
                | cons k ks => cases hk
              | cons e l ih =>
                intro ks hk
                cases ks with
                | nil => cases hk
                | cons k ks =>
                  have hk' : He.keyOf e :: l.map He.keyOf = some (k, PyData.keyHash P k) :: He.keysIn P ks := hk
                  injection hk' with h1 h2
                  obtain ⟨tk, ek⟩ : ∃ tk, e.key = .str k tk := by
                    unfold He.keyOf at h1
                    split at h1
                    · rename_i x tt q2
                      obtain ⟨h5, _⟩ := Prod.mk.inj (Option.some.inj h1)
                      exact ⟨tt, by rw [q2, h5]⟩
                    · cases h1
                  have e1 : e.key.isStr z = (k == z) := by rw [ek]; rfl
                  have e2 : e.refKey = false := by unfold DictEntry.refKey; rw [ek]
                  rw [List.find?_cons, e1, List.any_cons, List.any_cons, e2, Bool.false_or]
                  cases hz : k == z with
                  | true => exact ⟨some e.val, rfl, rfl⟩
                  | false =>
                    rw [Bool.false_or]
                    exact ih ks h2
            obtain ⟨r, h1, h2⟩ := main es.toList ks hk
            refine ⟨r, ?_, h2⟩
            unfold PySem.W.nsIn
            rw [q]
            exact h1
          · cases h
        | _ => cases h
      | some _ => cases h
    | _ => cases h
section
variable {X : Cx} {io : List Nat} {E : WX} {mk : List Kd} {kr : Kd}
def mGIx (tab : List (List Nat × List Nat)) (m : M D) : M D := fun e => (m e).bind fun d e1 => match d with
  | .str s => (match tab.find? (fun q => decide (q.1 = s)) with
    | some q => .ok (.str q.2) e1
    | none => .stk)
  | _ => .stk
def mGIn (neg : Bool) (tab : List (List Nat × List Nat)) (m : M D) : M D := fun e => (m e).bind fun d e1 => match d with
  | .str s => .ok (.bl (neg ^^ tab.any fun q => decide (q.1 = s))) e1
  | _ => .stk
theorem flat_res {W : Kx} {g : Gh} {F : Hp} {d d' : D} {e1 : Env3} {σ : St} {v : V} {H1 : Hp} {Q : VK} (r : ResK W io g F mk .fr d e1 σ v H1) (v' : V) (hr : ∀ F', Rep W F' d' v') (h : ∀ v H', ResK W io g F mk .fr d' e1 σ v H' → Q v H') : Q v' H1 := by
  obtain ⟨F1, rt1, rs, h1, l1, k, n, o⟩ := r.ex
  exact h v' H1 ⟨F1, rt1, [], h1, l1, ⟨hr _, rfl⟩, .nil, fun p hp => by cases hp⟩
theorem ev_gix (tab : List (List Nat × List Nat)) {x : Str} {b : Expr} {m : M D} {np pos : Pos} (hT : TabD X.K X.w X.mg x tab) (hg : Gl X x) (hb : EV X io E mk b m .fr) (hs : PlainIx b := by exact fun _ _ => rfl) (hd : (x == ("__debug__" : Str)) = false := by decide) :
    EV X io E mk (.Subscript (.Name x np) b pos) (mGIx tab m) .fr := by
  obtain ⟨p, hm, hw, hv⟩ := hT
  obtain ⟨es, n, KD⟩ := He.dicW_ok hw
  refine (pe_ix ix_kdict (pe_glob (v := .ref p) (pos := np) hg hm rfl hd) hb hs).imp fun σ H Q h => ?_
  show tE (kx X) io E mk m .fr σ H _
  obtain ⟨g, F, e, rt, l, h⟩ := h
  refine ⟨g, F, e, rt, l, ?_⟩
  unfold mGIx at h
  cases q : m e with
  | exc c fs => rw [q] at h; exact h
  | stk => rw [q] at h; exact h
  | ok d e1 =>
    rw [q] at h
    intro v H1 r
    simp only [R.bind_ok] at h
    cases d with
    | str s =>
      dsimp only at h
      cases hf : tab.find? (fun q => decide (q.1 = s)) with
      | none => rw [hf] at h; exact h.elim
      | some t =>
        rw [hf] at h
        have ht := List.mem_of_find?_eq_some hf
        have hts : t.1 = s := of_decide_eq_true (List.find?_some (p := fun q : List Nat × List Nat => decide (q.1 = s)) hf)
        obtain ⟨tk, hn⟩ := hv t ht
        rw [hts] at hn
        obtain ⟨F1, rt1, rs, h1, l1, k, n', o⟩ := r.ex
        have ev : v = .str (S s) := by
          have := k.1
          simpa [Rep] using this
        refine ⟨p, S s, .str (S t.2), rfl, ev, ⟨es, n, _, KD.at_, KD.lit, hn, ⟨tk, rfl⟩⟩, ?_⟩
        exact flat_res (d' := .str t.2) r _ (fun F' => by simp [Rep]) h
    | _ => exact h.elim
theorem gnotin_of {tab : List (List Nat × List Nat)} {p : Addr} {es : Array DictEntry} {n : Nat} {m : M D} {σ : St} {H : Hp} {Q : VK} (hw : He.dicW X.K p = some (He.keysIn X.w.params (tab.map fun q => S q.1)))
    (h : tE (kx X) io E mk (mGIn true tab m) .fr σ H Q) : tOp (fun x y H Q => ∃ (z : Str) (r : Option Value), x = .str z ∧ y = .ref p ∧ PySem.W.nsIn X.K p z = some r ∧ Q (.bl (!r.isSome)) H) (tE (kx X) io E mk m .fr) (tC (.ref p)) σ H Q := by
  show tE (kx X) io E mk m .fr σ H _
  obtain ⟨g, F, e, rt, l, h⟩ := h
  refine ⟨g, F, e, rt, l, ?_⟩
  unfold mGIn at h
  cases q : m e with
  | exc c fs => rw [q] at h; exact h
  | stk => rw [q] at h; exact h
  | ok d e1 =>
    rw [q] at h
    intro v H1 r
    simp only [R.bind_ok] at h
    cases d with
    | str s =>
      dsimp only at h
      obtain ⟨rr, hn, hsome⟩ := nsIn_tab hw (S s)
      obtain ⟨F1, rt1, rs, h1, l1, k, n', o⟩ := r.ex
      have ev : v = .str (S s) := by
        have := k.1
        simpa [Rep] using this
      have e2 : (true ^^ tab.any fun q => decide (q.1 = s)) = !rr.isSome := by
        rw [hsome, List.any_map, Bool.true_xor]
        refine congrArg not (congrArg (fun f => tab.any f) (funext fun q => ?_))
        show decide (q.1 = s) = (S q.1 == S s)
        rw [Bool.eq_iff_iff, decide_eq_true_eq, beq_iff_eq, S_inj]
      refine ⟨S s, rr, ev, rfl, hn, ?_⟩
      rw [e2] at h
      exact flat_res (d' := .bl (!rr.isSome)) r _ (fun F' => by simp [Rep]) h
    | _ => exact h.elim
theorem ev_gnotin (tab : List (List Nat × List Nat)) {x : Str} {a : Expr} {m : M D} {np pos : Pos} (hT : TabD X.K X.w X.mg x tab) (hg : Gl X x) (ha : EV X io E mk a m .fr) (hm' : behindInMarks .NotIn (.Name x np) = false) (hd : (x == ("__debug__" : Str)) = false := by decide) :
    EV X io E mk (.Compare a [.NotIn] [.Name x np] pos) (mGIn true tab m) .fr := by
  obtain ⟨p, hm, hw, hv⟩ := hT
  obtain ⟨es, n, KD⟩ := He.dicW_ok hw
  exact (pe_cmpR (op_notIn_kd KD) ha (pe_glob (v := .ref p) (pos := np) hg hm rfl hd) hm').imp fun σ H Q h => gnotin_of (es := es) (n := n) hw h
theorem tv_gnotin (tab : List (List Nat × List Nat)) {x : Str} {a : Expr} {m : M D} {np pos : Pos} (hT : TabD X.K X.w X.mg x tab) (hg : Gl X x) (ha : EV X io E mk a m .fr) (hm' : behindInMarks .NotIn (.Name x np) = false) (hd : (x == ("__debug__" : Str)) = false := by decide) :
    TV X io E mk (.Compare a [.NotIn] [.Name x np] pos) (mB (mGIn true tab m)) := by
  obtain ⟨p, hm, hw, hv⟩ := hT
  obtain ⟨es, n, KD⟩ := He.dicW_ok hw
  exact (pt_cmpR (op_notIn_kd KD) ha (pe_glob (v := .ref p) (pos := np) hg hm rfl hd) hm').imp fun σ H Q h => gnotin_of (es := es) (n := n) (Q := fun x H' => ∃ k, x = V.bl k ∧ Q k H') hw (tB_of Q h)
end
/-! ### what is left to show -/
section
variable {K : D → Env3 → Prop} {Y : KX} {e : Env3} {m : M D}
def OpGx (tab : List (List Nat × List Nat)) (d : D) (K : D → Prop) (_t : Tg K := .mk) : Prop := match d with
  | .str s => (match tab.find? (fun q => decide (q.1 = s)) with
    | some q => K (.str q.2)
    | none => False)
  | _ => False
def OpGi (neg : Bool) (tab : List (List Nat × List Nat)) (d : D) (K : D → Prop) (_t : Tg K := .mk) : Prop := match d with
  | .str s => K (.bl (neg ^^ tab.any fun q => decide (q.1 = s)))
  | _ => False
theorem OpGx_str {tab : List (List Nat × List Nat)} {s v : List Nat} {K : D → Prop} (h : tab.find? (fun q => decide (q.1 = s)) = some (s, v)) : OpGx tab (.str s) K = K (.str v) := by
  unfold OpGx
  dsimp only
  rw [h]
theorem OpGi_str {neg : Bool} {tab : List (List Nat × List Nat)} {s : List Nat} {K : D → Prop} : OpGi neg tab (.str s) K = K (.bl (neg ^^ tab.any fun q => decide (q.1 = s))) := rfl
theorem Ok_GIx {tab : List (List Nat × List Nat)} : Ok (mGIx tab m e) K Y = Ok (m e) (fun d e1 => OpGx tab d fun d => K d e1) Y := by
  unfold mGIx
  rw [Ok_bind]; refine Ok_ext fun d e1 => ?_
  cases d with
  | str s =>
    unfold OpGx
    dsimp only
    cases tab.find? (fun q => decide (q.1 = s)) <;> rfl
  | _ => rfl
theorem Ok_GIn {neg : Bool} {tab : List (List Nat × List Nat)} : Ok (mGIn neg tab m e) K Y = Ok (m e) (fun d e1 => OpGi neg tab d fun d => K d e1) Y := by
  unfold mGIn
  rw [Ok_bind]; refine Ok_ext fun d e1 => ?_
  cases d <;> rfl
end
end L3

noncomputable section
/-! # L4L: int(text) -/
namespace L3
open PySem PySem.Spec L2
open PyProof.Rows hiding St
section
variable {X : Cx} {F H : Hp} {W : Kx}
/-- int(text) -/
def dIntS : D → Option D
  | .str s => if s.length ≤ 640 then (PySem.intText? (S s)).map .int else none
  | _ => none
theorem pure_intS : PureFn (kx X) (fun xs H Q => ∃ a n, xs = [.str a] ∧ PySem.intText? a = some n ∧ a.length ≤ 640 ∧ Q (.int n) H) (f1 dIntS) := pure1 fun F H d z v Q hs r hf hq => by
  cases d with
  | str s =>
    simp only [dIntS] at hf
    split at hf
    · rename_i h
      obtain ⟨n, hn, rfl⟩ := Option.map_eq_some_iff.mp hf
      exact ⟨S s, n, by rw [r.str], hn, by rw [S_len]; exact h, hq.here hs Rep.int⟩
    · cases hf
  | _ => simp [dIntS] at hf
end
end L3

noncomputable section
/-! # L5A: lemmas for the mathematics -/
namespace L3
open PySem PySem.Spec L2
open PyProof.Rows hiding St
/-- a comprehension over a slot's own list that changes nothing -/
theorem Ok_Lc_pureS {i : Nat} {vs : List Nat} {src : M (List D)} {gf : D → Env3 → Option Env3} {t : M Bool} {el : M D} {K : D → Env3 → Prop} {X : KX} {e : Env3} (p : D → Bool) (f : D → D) (hi : vs.contains i = false)
    (h : Ok (src e) (fun ds e1 => ds.length ≤ sizeLine ∧ e1[i]? = some (some (.lst ds)) ∧ (∀ d ∈ ds, Op (gf d (wipeE vs e1)) fun e2 => Ok (t e2) (fun b e3 => b = p d ∧ if b = true then Ok (el e3) (fun y e4 => y = f d ∧ wipeE vs e4 = wipeE vs e1) (fun _ _ => False) else wipeE vs e3 = wipeE vs e1) (fun _ _ => False)) ∧
      K (.lst ((ds.filter p).map f)) e1) X) : Ok (mLc (some i) vs src gf t el e) K X := by
  have hv : i ∉ vs := fun m => by rw [List.contains_iff_mem.mpr m] at hi; cases hi
  rw [Ok_Lc]
  refine Ok.imp h (fun ds e1 ⟨h1, h2, h3, h4⟩ => ⟨h1, ?_⟩) fun _ _ z => z
  have g0 : gdS none ds (gdS (some i) ds gf) = gdS (some i) ds gf := rfl
  rw [← g0]
  refine (Ok_lc_pure (K := fun d e' => K d e' ∧ e'[i]? = some (some (.lst ds))) p f (fun d hd => ?_) ⟨h4, h2⟩).imp (fun ys e2 ⟨a, b, c⟩ => ⟨a, ?_, b⟩) fun _ _ z => z
  · have e0 : gdS (some i) ds gf d (wipeE vs e1) = gf d (wipeE vs e1) := by
      have hw : (wipeE vs e1)[i]? = some (some (.lst ds)) := by rw [wipeE_get, if_neg hv]; exact h2
      simp only [gdS, hw, if_true]
    rw [e0]
    exact h3 d hd
  · rw [gdP_some]
    rw [restE_get, if_neg hv] at c
    exact c
/-- a comprehension of two clauses that draws -/
theorem Ok_Lc2_inv {vs vs1 : List Nat} {src src1 : M (List D)} {gf gf1 : D → Env3 → Option Env3} {t : M Bool} {el : M D} {K : D → Env3 → Prop} {X : KX} {e : Env3} (I : Nat → List D → Env3 → Prop)
    (h : Ok (src e) (fun ds e1 => I 0 [] (wipeE vs e1) ∧ (∀ i d ys e, ds[i]? = some d → I i ys e → Op (gf d (wipeE vs e)) fun e1 => Ok (src1 e1) (fun ds1 e2 => Ok (lcD vs1 gf1 t el ds1 e2) (fun zs e3 => I (i + 1) (ys ++ zs) e3) (fun _ _ => False)) (fun _ _ => False)) ∧
      ∀ ys e2, I ds.length ys e2 → ys.length ≤ sizeLine ∧ e2.length = e1.length ∧ K (.lst ys) (restE vs e1 e2)) X) : Ok (mLc2 vs src gf src1 vs1 gf1 t el e) K X := by
  rw [Ok_Lc2]
  refine Ok.imp h (fun ds e1 ⟨h1, h2, h3⟩ => ?_) fun _ _ z => z
  have main : ∀ (l : List D) (n : Nat) (acc : List D) (e : Env3) (X : KX) (KL : List D → Env3 → Prop), (∀ i, l[i]? = ds[n + i]?) → I n acc e → (∀ zs e2, I (n + l.length) (acc ++ zs) e2 → KL zs e2) → Ok (lc2D vs gf src1 vs1 gf1 t el l e) KL X := by
    intro l
    induction l with
    | nil => intro n acc e X KL _ hi hk; rw [Ok_lc2_nil]; exact hk [] e (by rw [List.append_nil]; exact hi)
    | cons d r ih =>
      intro n acc e X KL hm hi hk
      refine Ok_lc2_cons ?_
      have hd := h2 n d acc e (by have := hm 0; simpa using this.symm) hi
      cases q : gf d (wipeE vs e) with
      | none => rw [q, Op_none] at hd; exact hd.elim
      | some e2 =>
        rw [q] at hd
        simp only [Op_some] at hd ⊢
        refine Ok.imp hd (fun ds1 e3 hb => ?_) fun _ _ z => z
        refine Ok.imp hb (fun zs e4 hz => ?_) fun _ _ z => z
        exact ih (n + 1) (acc ++ zs) e4 _ _ (fun i => by have := hm (i + 1); rw [List.getElem?_cons_succ] at this; rw [this]; congr 1; omega) hz fun ws e5 h5 => hk _ e5 (by
          have e9 : n + (r.length + 1) = n + 1 + r.length := by omega
          rw [← List.append_assoc, List.length_cons, e9]
          exact h5)
  exact main ds 0 [] _ _ _ (fun i => by rw [Nat.zero_add]) h1 fun zs e2 hi => h3 zs e2 (by simpa using hi)
/-- a loop, turn by turn -/
theorem Po_for_nil {gf : D → Env3 → Option Env3} {a : M3} {e : Env3} {k : Kt} : Po (forD gf a [] e) k = k.nx e := rfl
theorem Po_for_cons {gf : D → Env3 → Option Env3} {a : M3} {d : D} {ds : List D} {e : Env3} {k : Kt} : Po (forD gf a (d :: ds) e) k = Op (gf d e) fun e1 => Po (a e1) (k.lp (fun e2 => Po (forD gf a ds e2) k) k.nx) := by
  show Po (match gf d e with | none => O3.stk | some e1 => _) k = _
  cases gf d e with
  | none => rfl
  | some e1 =>
    simp only [Op_some]
    cases a e1 <;> rfl
theorem muApp {xs : List D} {d : D} (h : xs.length < sizeLine) : muAppend xs [d] = some (xs ++ [d]) := if_pos h
theorem small_lt {n : Nat} (h : n ≤ 1000) : n < sizeLine := by have := (by decide +kernel : 1000 < sizeLine); omega
end L3


noncomputable section
namespace K31
open PySem PySem.Spec L2 L3
open PyProof.Rows hiding St

abbrev PR : Program := PySem.Challenge.pw_lightsapart_k31_texts_of_coasts
def topS (i : Nat) : Stmt := PR.main.body.getD i (.Pass ⟨0, 0, 0, 0⟩)
abbrev s_is_row : Stmt := topS 4
theorem sc_is_row : FnScope ["thing"] ["thing"] (defScope s_is_row) := ⟨rfl, rfl, rfl, by decide +kernel, rfl, by decide +kernel, by decide +kernel⟩
abbrev s_is_tuple_of : Stmt := topS 5
theorem sc_is_tuple_of : FnScope ["thing", "many"] ["thing", "many"] (defScope s_is_tuple_of) := ⟨rfl, rfl, rfl, by decide +kernel, rfl, by decide +kernel, by decide +kernel⟩
abbrev s_is_name : Stmt := topS 6
theorem sc_is_name : FnScope ["thing", "sign"] ["thing"] (defScope s_is_name) := ⟨rfl, rfl, rfl, by decide +kernel, rfl, by decide +kernel, by decide +kernel⟩
abbrev s_is_of_signs : Stmt := topS 7
theorem sc_is_of_signs : FnScope ["thing", "signs", "sign"] ["thing", "signs"] (defScope s_is_of_signs) := ⟨rfl, rfl, rfl, by decide +kernel, rfl, by decide +kernel, by decide +kernel⟩
abbrev s_as_count : Stmt := topS 8
theorem sc_as_count : FnScope ["word", "most"] ["word", "most"] (defScope s_as_count) := ⟨rfl, rfl, rfl, by decide +kernel, rfl, by decide +kernel, by decide +kernel⟩
abbrev s_is_character : Stmt := topS 18
theorem sc_is_character : FnScope ["thing"] ["thing"] (defScope s_is_character) := ⟨rfl, rfl, rfl, by decide +kernel, rfl, by decide +kernel, by decide +kernel⟩
abbrev s_Coast_init : Stmt := inClass (topS 21) 0
theorem sc_Coast_init : FnScope ["self", "lights", "names", "index", "light"] ["self", "lights"] (defScope s_Coast_init) := ⟨rfl, rfl, rfl, by decide +kernel, rfl, by decide +kernel, by decide +kernel⟩
abbrev s_text_of : Stmt := topS 25
theorem sc_text_of : FnScope ["character", "words", "begin", "at"] ["character"] (defScope s_text_of) := ⟨rfl, rfl, rfl, by decide +kernel, rfl, by decide +kernel, by decide +kernel⟩
abbrev s_character_in : Stmt := topS 26
theorem sc_character_in : FnScope ["text", "found", "word", "many", "sign"] ["text"] (defScope s_character_in) := ⟨rfl, rfl, rfl, by decide +kernel, rfl, by decide +kernel, by decide +kernel⟩
abbrev s_coast_text : Stmt := topS 27
theorem sc_coast_text : FnScope ["coast", "name", "character"] ["coast"] (defScope s_coast_text) := ⟨rfl, rfl, rfl, by decide +kernel, rfl, by decide +kernel, by decide +kernel⟩
abbrev s_read_coast : Stmt := topS 28
theorem sc_read_coast : FnScope ["text", "lights", "number", "line", "words", "name", "character", "names", "one", "_"] ["text"] (defScope s_read_coast) := ⟨rfl, rfl, rfl, by decide +kernel, rfl, by decide +kernel, by decide +kernel⟩
abbrev s_law_taken : Stmt := topS 30
theorem sc_law_taken : FnScope ["row", "many", "found", "cell"] ["row", "many"] (defScope s_law_taken) := ⟨rfl, rfl, rfl, by decide +kernel, rfl, by decide +kernel, by decide +kernel⟩
abbrev s_law_pick : Stmt := topS 31
theorem sc_law_pick : FnScope ["row", "some"] ["row", "some"] (defScope s_law_pick) := ⟨rfl, rfl, rfl, by decide +kernel, rfl, by decide +kernel, by decide +kernel⟩
abbrev s_law_pickQ : Stmt := topS 31
theorem sc_law_pickQ : FnScope ["row", "some"] ["row", "some"] (defScope s_law_pickQ) := ⟨rfl, rfl, rfl, by decide +kernel, rfl, by decide +kernel, by decide +kernel⟩
abbrev s_law_alike : Stmt := topS 32
theorem sc_law_alike : FnScope ["found", "due", "k", "key"] ["found", "due"] (defScope s_law_alike) := ⟨rfl, rfl, rfl, by decide +kernel, rfl, by decide +kernel, by decide +kernel⟩
abbrev s_law_name : Stmt := topS 33
theorem sc_law_name : FnScope ["row", "many", "k"] ["row"] (defScope s_law_name) := ⟨rfl, rfl, rfl, by decide +kernel, rfl, by decide +kernel, by decide +kernel⟩
abbrev s_law_names : Stmt := topS 34
theorem sc_law_names : FnScope ["row", "many", "found", "k", "name", "one"] ["row", "many"] (defScope s_law_names) := ⟨rfl, rfl, rfl, by decide +kernel, rfl, by decide +kernel, by decide +kernel⟩
abbrev s_law_character : Stmt := topS 35
theorem sc_law_character : FnScope ["row", "most", "many", "kind", "at", "found", "k"] ["row", "most"] (defScope s_law_character) := ⟨rfl, rfl, rfl, by decide +kernel, rfl, by decide +kernel, by decide +kernel⟩
abbrev s_law_core : Stmt := topS 36
theorem sc_law_core : FnScope ["character", "many"] ["character"] (defScope s_law_core) := ⟨rfl, rfl, rfl, by decide +kernel, rfl, by decide +kernel, by decide +kernel⟩
abbrev s_law_turns : Stmt := topS 37
theorem sc_law_turns : FnScope ["character", "own", "k"] ["character"] (defScope s_law_turns) := ⟨rfl, rfl, rfl, by decide +kernel, rfl, by decide +kernel, by decide +kernel⟩
abbrev s_law_coast : Stmt := topS 38
theorem sc_law_coast : FnScope ["row", "lights", "most", "found", "name", "character"] ["row", "lights", "most"] (defScope s_law_coast) := ⟨rfl, rfl, rfl, by decide +kernel, rfl, by decide +kernel, by decide +kernel⟩
abbrev s_law_text : Stmt := topS 39
theorem sc_law_text : FnScope ["character", "words", "begin", "k"] ["character"] (defScope s_law_text) := ⟨rfl, rfl, rfl, by decide +kernel, rfl, by decide +kernel, by decide +kernel⟩
abbrev s_law_told : Stmt := topS 40
theorem sc_law_told : FnScope ["text", "e"] ["text"] (defScope s_law_told) := ⟨rfl, rfl, rfl, by decide +kernel, rfl, by decide +kernel, by decide +kernel⟩
abbrev s_law : Stmt := topS 41
theorem sc_law : FnScope ["script", "row", "turn", "lights", "rows", "text", "at", "wrong", "names", "odd", "name", "character", "one", "light"] ["script"] (defScope s_law) := ⟨rfl, rfl, rfl, by decide +kernel, rfl, by decide +kernel, by decide +kernel⟩
structure TopF (K : PySem.W.Frag) (mg : Str → Option Value) (x : Str) (st : Stmt) (ps : List Str) : Prop where
  ex : ∃ (f : Addr) (fd : FuncData), Fun K x x st f fd ∧ mg x = some (.ref f) ∧ Binds K fd ps []
structure TopI (K : PySem.W.Frag) (mg : Str → Option Value) (c m q : Str) (st : Stmt) (ps : List Str) : Prop where
  ex : ∃ (C f : Addr) (fd : FuncData), Fun K m q st f fd ∧ Mk K C f ∧ mg c = some (.ref C) ∧ Binds K fd ps []
structure TopM (K : PySem.W.Frag) (mg : Str → Option Value) (c m q : Str) (st : Stmt) (ps : List Str) : Prop where
  ex : ∃ (C f : Addr) (fd : FuncData), Fun K m q st f fd ∧ Cls K C ∧ Meth K C m f ∧ mg c = some (.ref C) ∧ Binds K fd ps []
structure Top (K : PySem.W.Frag) (mg : Str → Option Value) : Prop where
  t_is_row : TopF K mg "is_row" s_is_row ["thing"]
  t_is_tuple_of : TopF K mg "is_tuple_of" s_is_tuple_of ["thing", "many"]
  t_is_name : TopF K mg "is_name" s_is_name ["thing"]
  t_is_of_signs : TopF K mg "is_of_signs" s_is_of_signs ["thing", "signs"]
  t_as_count : TopF K mg "as_count" s_as_count ["word", "most"]
  t_is_character : TopF K mg "is_character" s_is_character ["thing"]
  t_Coast_init : TopI K mg "Coast" "__init__" "Coast.__init__" s_Coast_init ["self", "lights"]
  t_text_of : TopF K mg "text_of" s_text_of ["character"]
  t_character_in : TopF K mg "character_in" s_character_in ["text"]
  t_coast_text : TopF K mg "coast_text" s_coast_text ["coast"]
  t_read_coast : TopF K mg "read_coast" s_read_coast ["text"]
  t_law_taken : TopF K mg "_law_taken" s_law_taken ["row", "many"]
  t_law_pick : TopF K mg "_law_pick" s_law_pick ["row", "some"]
  t_law_pickQ : TopF K mg "_law_pick" s_law_pickQ ["row", "some"]
  t_law_alike : TopF K mg "_law_alike" s_law_alike ["found", "due"]
  t_law_name : TopF K mg "_law_name" s_law_name ["row"]
  t_law_names : TopF K mg "_law_names" s_law_names ["row", "many"]
  t_law_character : TopF K mg "_law_character" s_law_character ["row", "most"]
  t_law_core : TopF K mg "_law_core" s_law_core ["character"]
  t_law_turns : TopF K mg "_law_turns" s_law_turns ["character"]
  t_law_coast : TopF K mg "_law_coast" s_law_coast ["row", "lights", "most"]
  t_law_text : TopF K mg "_law_text" s_law_text ["character"]
  t_law_told : TopF K mg "_law_told" s_law_told ["text"]
  t_law : TopF K mg "law" s_law ["script"]
  f_Coast_lights : FldT K mg "Coast" "lights"
  f_Coast_names : FldT K mg "Coast" "names"
  b_ValueError : mg "ValueError" = none
  b_all : mg "all" = none
  b_bool : mg "bool" = none
  b_dict : mg "dict" = none
  b_enumerate : mg "enumerate" = none
  b_int : mg "int" = none
  b_isinstance : mg "isinstance" = none
  b_len : mg "len" = none
  b_list : mg "list" = none
  b_range : mg "range" = none
  b_str : mg "str" = none
  b_tuple : mg "tuple" = none
  g_LETTERS : ∃ t, mg "LETTERS" = some (.str (S [97, 98, 99, 100, 101, 102, 103, 104, 105, 106, 107, 108, 109, 110, 111, 112, 113, 114, 115, 116, 117, 118, 119, 120, 121, 122]) t)
  g_MOST_LENGTH : ∃ t, mg "MOST_LENGTH" = some (.int (12) t)
  g_MOST_LIGHTS : ∃ t, mg "MOST_LIGHTS" = some (.int (12) t)
  g_MOST_NAME : ∃ t, mg "MOST_NAME" = some (.int (8) t)
  g_SIGNS : ∃ t, mg "SIGNS" = some (.str (S [35, 46]) t)
  ext0 : ExT K mg "CoastError" ["BadLights", "BadRow"] ["BadRow"]
structure Tex (w : World) (K : PySem.W.Frag) (mg : Str → Option Value) (base : Heap) : Prop where
  none : True
  x_BadLights : XRs PR w K mg base "BadLights"
  x_BadRow : XRs PR w K mg base "BadRow"
  d_LETTERS_OF : TabD K w mg "LETTERS_OF" [([35], [76]), ([46], [68])]
  d_SIGNS_OF : TabD K w mg "SIGNS_OF" [([76], [35]), ([68], [46])]
variable {w : World} {K : PySem.W.Frag} {mg : Str → Option Value} {base : Heap}
def d_is_row : M3 :=
 (sRet (mIsa2 "list" "tuple" (.ex) (mVar 0)))
def F_is_row : List D → FR := denP 1 d_is_row
theorem b_is_row (T : Top K mg) (TX : Tex w K mg base)  : ∀ f, BodyOk PR w K mg base ["thing"] "is_row" s_is_row f 0 [] [.fr] .fr d_is_row := by
  intro f cdv A0 outer s H E C
  have hN : (["thing"] : List Str).Nodup := sc_is_row.nd
  have hu := C.room.units; have hu2 := C.room.units1; have hu1 := Nat.lt_of_le_of_lt (Nat.add_le_add_left (by decide : 1 ≤ 64) _) C.room.units
  exact (bv_one (sv_ret (ev_isa2 "list" "tuple" (by rfl) T.b_isinstance (by rfl) T.b_list (by decide +kernel) (by rfl) T.b_tuple (by decide +kernel) ((ev_var 0)).ov)))
theorem c_is_row (T : Top K mg) (TX : Tex w K mg base)  : CalP PR w K mg base 1 "is_row" 1 .fr F_is_row := by
  obtain ⟨f, fd, F, hm, b⟩ := T.t_is_row.ex; exact ⟨f, fd, _, fn_pure F sc_is_row (by rfl) (by decide) (b_is_row T TX  f), hm, F.kp, b⟩
def d_is_tuple_of : M3 :=
 (sRet (mAnd (mIsa "tuple" (.ex) (mVar 0)) (m2 (.ex) (.ex) dEq (mFn [.ex] (f1 dLen) (mCons (mVar 0) mNil)) (mVar 1))))
def F_is_tuple_of : List D → FR := denP 2 d_is_tuple_of
theorem b_is_tuple_of (T : Top K mg) (TX : Tex w K mg base)  : ∀ f, BodyOk PR w K mg base ["thing", "many"] "is_tuple_of" s_is_tuple_of f 0 [] [.fr, .fr] .fr d_is_tuple_of := by
  intro f cdv A0 outer s H E C
  have hN : (["thing", "many"] : List Str).Nodup := sc_is_tuple_of.nd
  have hu := C.room.units; have hu2 := C.room.units1; have hu1 := Nat.lt_of_le_of_lt (Nat.add_le_add_left (by decide : 1 ≤ 64) _) C.room.units
  exact (bv_one (sv_ret (ev_and (ev_isa "tuple" (by rfl) T.b_isinstance (by rfl) T.b_tuple (by decide +kernel) ((ev_var 0)).ov) ((ev_cmp (op_eqG (by exact hu)) pure_eq ((ev_fn call_len pure_len (by rfl) T.b_len (by decide +kernel) (av_cons ((ev_var 0)).ov av_nil))).ov ((ev_var 1)).ov (by first | exact nomark _ | with_unfolding_all rfl))).bl)))
theorem c_is_tuple_of (T : Top K mg) (TX : Tex w K mg base)  : CalP PR w K mg base 1 "is_tuple_of" 2 .fr F_is_tuple_of := by
  obtain ⟨f, fd, F, hm, b⟩ := T.t_is_tuple_of.ex; exact ⟨f, fd, _, fn_pure F sc_is_tuple_of (by rfl) (by decide) (b_is_tuple_of T TX  f), hm, F.kp, b⟩
def d_is_name : M3 :=
 (sSeq (sIf (mOrT (mNot (mB (mIsa "str" (.ex) (mVar 0)))) (mNot (mB (mChain (.ex) (.ex) (.ex) dLe dLe (mC (.int 1)) (mFn [.ex] (f1 dLen) (mCons (mVar 0) mNil)) (mC (.int 8)))))) (sRet (mC (.bl false))) sSkip)
 (sRet (mFn [.ex] (f1 dAll) (mCons (mLc none [1] (mIt (mVar 0)) (gfN 1) mYes (m2 (.ex) (.ex) dIn (mVar 1) (mC (.str [97, 98, 99, 100, 101, 102, 103, 104, 105, 106, 107, 108, 109, 110, 111, 112, 113, 114, 115, 116, 117, 118, 119, 120, 121, 122])))) mNil))))
def F_is_name : List D → FR := denP 2 d_is_name
theorem b_is_name (T : Top K mg) (TX : Tex w K mg base)  : ∀ f, BodyOk PR w K mg base ["thing", "sign"] "is_name" s_is_name f 0 [] [.fr, .fr] .fr d_is_name := by
  intro f cdv A0 outer s H E C
  have hN : (["thing", "sign"] : List Str).Nodup := sc_is_name.nd
  have hu := C.room.units; have hu2 := C.room.units1; have hu1 := Nat.lt_of_le_of_lt (Nat.add_le_add_left (by decide : 1 ≤ 64) _) C.room.units
  exact (bv_cons (sv_if (WV.tv (wv_or (tv_not (tv_val (ev_isa "str" (by rfl) T.b_isinstance (by rfl) T.b_str (by decide +kernel) ((ev_var 0)).ov))) (wv_or1 (tv_not (tv_chain op_leG op_leG pure_le pure_le (ev_int).ov ((ev_fn call_len pure_len (by rfl) T.b_len (by decide +kernel) (av_cons ((ev_var 0)).ov av_nil))).ov ((ev_gint (8) (by rfl) T.g_MOST_NAME)).ov))))) (bv_one (sv_ret ev_bl)) bv_nil)
 (bv_one (sv_ret (ev_fn (cr_all C.calm) pure_all (by rfl) T.b_all (by decide +kernel) (av_cons (((ev_lc [("sign", 1)] C.calm (iv_any (ev_var 0)) (blkOk_by (N := ["thing", "sign"]) (sc := defScope s_is_name) (by first | decide +kernel | kernel_rfl)) (fun s0 H0 C0 cl0 fp0 => (gv_name 1)) (fun s0 H0 C0 cl0 fp0 => (ev_cmp (op_inG (by exact hu2)) pure_in ((ev_var 1)).ov ((ev_gstr [97, 98, 99, 100, 101, 102, 103, 104, 105, 106, 107, 108, 109, 110, 111, 112, 113, 114, 115, 116, 117, 118, 119, 120, 121, 122] (by rfl) T.g_LETTERS)).ov (by first | exact nomark _ | with_unfolding_all rfl))))).fz).ov av_nil)))))
theorem c_is_name (T : Top K mg) (TX : Tex w K mg base)  : CalP PR w K mg base 1 "is_name" 1 .fr F_is_name := by
  obtain ⟨f, fd, F, hm, b⟩ := T.t_is_name.ex; exact ⟨f, fd, _, fn_pure F sc_is_name (by rfl) (by decide) (b_is_name T TX  f), hm, F.kp, b⟩
def d_is_of_signs : M3 :=
 (sRet (mAnd (mIsa "str" (.ex) (mVar 0)) (mFn [.ex] (f1 dAll) (mCons (mLc none [2] (mIt (mVar 0)) (gfN 2) mYes (m2 (.ex) (.ex) dIn (mVar 2) (mVar 1))) mNil))))
def F_is_of_signs : List D → FR := denP 3 d_is_of_signs
theorem b_is_of_signs (T : Top K mg) (TX : Tex w K mg base)  : ∀ f, BodyOk PR w K mg base ["thing", "signs", "sign"] "is_of_signs" s_is_of_signs f 0 [] [.fr, .fr, .fr] .fr d_is_of_signs := by
  intro f cdv A0 outer s H E C
  have hN : (["thing", "signs", "sign"] : List Str).Nodup := sc_is_of_signs.nd
  have hu := C.room.units; have hu2 := C.room.units1; have hu1 := Nat.lt_of_le_of_lt (Nat.add_le_add_left (by decide : 1 ≤ 64) _) C.room.units
  exact (bv_one (sv_ret (ev_and (ev_isa "str" (by rfl) T.b_isinstance (by rfl) T.b_str (by decide +kernel) ((ev_var 0)).ov) ((ev_fn (cr_all C.calm) pure_all (by rfl) T.b_all (by decide +kernel) (av_cons (((ev_lc [("sign", 2)] C.calm (iv_any (ev_var 0)) (blkOk_by (N := ["thing", "signs", "sign"]) (sc := defScope s_is_of_signs) (by first | decide +kernel | kernel_rfl)) (fun s0 H0 C0 cl0 fp0 => (gv_name 2)) (fun s0 H0 C0 cl0 fp0 => (ev_cmp (op_inG (by exact hu2)) pure_in ((ev_var 2)).ov ((ev_var 1)).ov (by first | exact nomark _ | with_unfolding_all rfl))))).fz).ov av_nil))).bl)))
theorem c_is_of_signs (T : Top K mg) (TX : Tex w K mg base)  : CalP PR w K mg base 1 "is_of_signs" 2 .fr F_is_of_signs := by
  obtain ⟨f, fd, F, hm, b⟩ := T.t_is_of_signs.ex; exact ⟨f, fd, _, fn_pure F sc_is_of_signs (by rfl) (by decide) (b_is_of_signs T TX  f), hm, F.kp, b⟩
def d_as_count : M3 :=
 (sSeq (sIf (mOrT (mNot (mB (mChain (.ex) (.ex) (.ex) dLe dLe (mC (.int 1)) (mFn [.ex] (f1 dLen) (mCons (mVar 0) mNil)) (mC (.int 6))))) (mOrT (mNot (mB (mCall F_is_of_signs (mCons (mVar 0) (mCons (mC (.str [48, 49, 50, 51, 52, 53, 54, 55, 56, 57])) mNil))))) (mB (m2 (.ex) (.ex) dEq (m2 (.ex) (.ex) dIx (mVar 0) (mC (.int 0))) (mC (.str [48])))))) (sRet (mC .non)) sSkip)
 (sRet (mIf (mB (m2 (.ex) (.ex) dLe (mFn [.ex] (f1 dIntS) (mCons (mVar 0) mNil)) (mVar 1))) (mFn [.ex] (f1 dIntS) (mCons (mVar 0) mNil)) (mC .non))))
def F_as_count : List D → FR := denP 2 d_as_count
theorem b_as_count (T : Top K mg) (TX : Tex w K mg base) (c_is_of_signs : CalP PR w K mg base 1 "is_of_signs" 2 .fr F_is_of_signs) : ∀ f, BodyOk PR w K mg base ["word", "most"] "as_count" s_as_count f 1 [] [.fr, .fr] .fr d_as_count := by
  intro f cdv A0 outer s H E C
  have hN : (["word", "most"] : List Str).Nodup := sc_as_count.nd
  have hu := C.room.units; have hu2 := C.room.units1; have hu1 := Nat.lt_of_le_of_lt (Nat.add_le_add_left (by decide : 1 ≤ 64) _) C.room.units
  exact (bv_cons (sv_if (WV.tv (wv_or (tv_not (tv_chain op_leG op_leG pure_le pure_le (ev_int).ov ((ev_fn call_len pure_len (by rfl) T.b_len (by decide +kernel) (av_cons ((ev_var 0)).ov av_nil))).ov (ev_int).ov)) (wv_or (tv_not (tv_val (ev_call c_is_of_signs C.room C.tk (by rfl) (av_cons ((ev_var 0)).ov (av_cons ((ev_str [48, 49, 50, 51, 52, 53, 54, 55, 56, 57])).ov av_nil)) (hk := by first | decide | omega)))) (wv_or1 (tv_cmp (op_eqG (by exact hu)) pure_eq ((ev_ix ix_seq pure_ix ((ev_var 0)).ov (ev_int).ov)).ov ((ev_str [48])).ov (by first | exact nomark _ | with_unfolding_all rfl)))))) (bv_one (sv_ret ev_non)) bv_nil)
 (bv_one (sv_ret (ev_if (tv_cmp op_leG pure_le ((ev_ty call_int_str pure_intS (by rfl) T.b_int (by decide +kernel) (av_cons ((ev_var 0)).ov av_nil))).ov ((ev_var 1)).ov (by first | exact nomark _ | with_unfolding_all rfl)) (ev_ty call_int_str pure_intS (by rfl) T.b_int (by decide +kernel) (av_cons ((ev_var 0)).ov av_nil)) ev_non))))
theorem c_as_count (T : Top K mg) (TX : Tex w K mg base) (c_is_of_signs : CalP PR w K mg base 1 "is_of_signs" 2 .fr F_is_of_signs) : CalP PR w K mg base 2 "as_count" 2 .fr F_as_count := by
  obtain ⟨f, fd, F, hm, b⟩ := T.t_as_count.ex; exact ⟨f, fd, _, fn_pure F sc_as_count (by rfl) (by decide) (b_as_count T TX c_is_of_signs f), hm, F.kp, b⟩
def d_is_character : M3 :=
 (sRet (mAnd (mCall F_is_of_signs (mCons (mVar 0) (mCons (mC (.str [35, 46])) mNil))) (mChain (.ex) (.ex) (.ex) dLe dLe (mC (.int 1)) (mFn [.ex] (f1 dLen) (mCons (mVar 0) mNil)) (mC (.int 12)))))
def F_is_character : List D → FR := denP 1 d_is_character
theorem b_is_character (T : Top K mg) (TX : Tex w K mg base) (c_is_of_signs : CalP PR w K mg base 1 "is_of_signs" 2 .fr F_is_of_signs) : ∀ f, BodyOk PR w K mg base ["thing"] "is_character" s_is_character f 1 [] [.fr] .fr d_is_character := by
  intro f cdv A0 outer s H E C
  have hN : (["thing"] : List Str).Nodup := sc_is_character.nd
  have hu := C.room.units; have hu2 := C.room.units1; have hu1 := Nat.lt_of_le_of_lt (Nat.add_le_add_left (by decide : 1 ≤ 64) _) C.room.units
  exact (bv_one (sv_ret (ev_and (ev_call c_is_of_signs C.room C.tk (by rfl) (av_cons ((ev_var 0)).ov (av_cons ((ev_gstr [35, 46] (by rfl) T.g_SIGNS)).ov av_nil)) (hk := by first | decide | omega)) ((ev_chain op_leG op_leG pure_le pure_le (ev_int).ov ((ev_fn call_len pure_len (by rfl) T.b_len (by decide +kernel) (av_cons ((ev_var 0)).ov av_nil))).ov ((ev_gint (12) (by rfl) T.g_MOST_LENGTH)).ov)).bl)))
theorem c_is_character (T : Top K mg) (TX : Tex w K mg base) (c_is_of_signs : CalP PR w K mg base 1 "is_of_signs" 2 .fr F_is_of_signs) : CalP PR w K mg base 2 "is_character" 1 .fr F_is_character := by
  obtain ⟨f, fd, F, hm, b⟩ := T.t_is_character.ex; exact ⟨f, fd, _, fn_pure F sc_is_character (by rfl) (by decide) (b_is_character T TX c_is_of_signs f), hm, F.kp, b⟩
def d_Coast_init : M3 :=
 (sSeq (sIf (mOrT (mNot (mB (mCall F_is_row (mCons (mVar 1) mNil)))) (mNot (mB (mChain (.ex) (.ex) (.ex) dLe dLe (mC (.int 1)) (mFn [.ex] (f1 dLen) (mCons (mVar 1) mNil)) (mC (.int 12)))))) (sRaise "BadLights" (mNeg (mC (.int 1)))) sSkip)
 (sSeq (sSet 2 (mLst mNil))
 (sSeq (sFor (mEnum (mVar 1)) (gfT (gfCons (gfN 3) (gfCons (gfN 4) gfNil))) (sSeq (sIf (mOrT (mNot (mB (mCall F_is_tuple_of (mCons (mVar 4) (mCons (mC (.int 2)) mNil))))) (mOrT (mNot (mB (mCall F_is_name (mCons (m2 (.ex) (.ex) dIx (mVar 4) (mC (.int 0))) mNil)))) (mOrT (mB (m2 (.ex) (.sl 2) dIn (m2 (.ex) (.ex) dIx (mVar 4) (mC (.int 0))) (mVar 2))) (mNot (mB (mCall F_is_character (mCons (m2 (.ex) (.ex) dIx (mVar 4) (mC (.int 1))) mNil))))))) (sRaise "BadLights" (mVar 3)) sSkip)
 (sMut 2 muAppend (mCons (m2 (.ex) (.ex) dIx (mVar 4) (mC (.int 0))) mNil))))
 (sSeq (sFldS "Coast" "lights" 0 (mFn [.ex] (f1 dTuple) (mCons (mVar 1) mNil)))
 (sFldS "Coast" "names" 0 (mFn [.sl 2] (f1 dTuple) (mCons (mVar 2) mNil)))))))
def F_Coast_init : List D → FR := denI 5 "Coast" d_Coast_init
theorem b_Coast_init (T : Top K mg) (TX : Tex w K mg base) (c_is_row : CalP PR w K mg base 1 "is_row" 1 .fr F_is_row) (c_is_tuple_of : CalP PR w K mg base 1 "is_tuple_of" 2 .fr F_is_tuple_of) (c_is_name : CalP PR w K mg base 1 "is_name" 1 .fr F_is_name) (c_is_character : CalP PR w K mg base 2 "is_character" 1 .fr F_is_character) : ∀ f, BodyOk PR w K mg base ["self", "lights", "names", "index", "light"] "Coast.__init__" s_Coast_init f 2 [0] [.obj, .fr, .own .fr, .fr, .fr] .fr d_Coast_init := by
  intro f cdv A0 outer s H E C
  have hN : (["self", "lights", "names", "index", "light"] : List Str).Nodup := sc_Coast_init.nd
  have hu := C.room.units; have hu2 := C.room.units1; have hu1 := Nat.lt_of_le_of_lt (Nat.add_le_add_left (by decide : 1 ≤ 64) _) C.room.units
  exact (bv_cons (sv_if (WV.tv (wv_or (tv_not (tv_val (ev_call c_is_row C.room C.tk (by rfl) (av_cons ((ev_var 1)).ov av_nil) (hk := by first | decide | omega)))) (wv_or1 (tv_not (tv_chain op_leG op_leG pure_le pure_le (ev_int).ov ((ev_fn call_len pure_len (by rfl) T.b_len (by decide +kernel) (av_cons ((ev_var 1)).ov av_nil))).ov ((ev_gint (12) (by rfl) T.g_MOST_LIGHTS)).ov))))) (bv_one (sv_raise TX.x_BadLights C.room C.calm C.tk (by rfl) (ev_neg ev_int) (hk := by first | decide | omega))) bv_nil)
 (bv_cons (sv_set 2 (ev_lstO av_nil))
 (bv_cons (sv_forT C.po C.calm (iv_enum (by rfl) T.b_enumerate (ev_var 1)) (gt_tup 2 C.calm (gs_cons (gv_name 3) (gs_cons (gv_name 4) gs_nil)) (gf_cons (gf_cons gf_nil))) (bv_cons (sv_if (WV.tv (wv_or (tv_not (tv_val (ev_call c_is_tuple_of C.room C.tk (by rfl) (av_cons ((ev_var 4)).ov (av_cons (ev_int).ov av_nil)) (hk := by first | decide | omega)))) (wv_or (tv_not (tv_val (ev_call c_is_name C.room C.tk (by rfl) (av_cons ((ev_ix ix_seq pure_ix ((ev_var 4)).ov (ev_int).ov)).ov av_nil) (hk := by first | decide | omega)))) (wv_or (tv_cmp (op_inG (by exact hu2)) pure_in ((ev_ix ix_seq pure_ix ((ev_var 4)).ov (ev_int).ov)).ov (ov_sl 2) (by first | exact nomark _ | with_unfolding_all rfl)) (wv_or1 (tv_not (tv_val (ev_call c_is_character C.room C.tk (by rfl) (av_cons ((ev_ix ix_seq pure_ix ((ev_var 4)).ov (ev_int).ov)).ov av_nil) (hk := by first | decide | omega))))))))) (bv_one (sv_raise TX.x_BadLights C.room C.calm C.tk (by rfl) (ev_var 3) (hk := by first | decide | omega))) bv_nil)
 (bv_one (sv_append 2 (pe_var (i := 2) (by rfl) (by first | exact Or.inl rfl | exact Or.inr (Or.inl rfl) | exact Or.inr (Or.inr rfl))) (av_cons ((ev_ix ix_seq pure_ix ((ev_var 4)).ov (ev_int).ov)).ov av_nil)))))
 (bv_cons (sv_fld 0 T.f_Coast_lights (ev_ty call_tuple_of pure_tuple (by rfl) T.b_tuple (by decide +kernel) (av_cons ((ev_var 1)).ov av_nil)) (pe_var (i := 0) (by rfl) (by first | exact Or.inl rfl | exact Or.inr (Or.inl rfl) | exact Or.inr (Or.inr rfl))))
 (bv_one (sv_fld 0 T.f_Coast_names (ev_ty call_tuple_of pure_tuple (by rfl) T.b_tuple (by decide +kernel) (av_cons (ov_sl 2) av_nil)) (pe_var (i := 0) (by rfl) (by first | exact Or.inl rfl | exact Or.inr (Or.inl rfl) | exact Or.inr (Or.inr rfl)))))))))
theorem c_Coast_init (T : Top K mg) (TX : Tex w K mg base) (c_is_row : CalP PR w K mg base 1 "is_row" 1 .fr F_is_row) (c_is_tuple_of : CalP PR w K mg base 1 "is_tuple_of" 2 .fr F_is_tuple_of) (c_is_name : CalP PR w K mg base 1 "is_name" 1 .fr F_is_name) (c_is_character : CalP PR w K mg base 2 "is_character" 1 .fr F_is_character) : CalI PR w K mg base 3 "Coast" 1 F_Coast_init := by
  obtain ⟨C, f, fd, F, M, hm, b⟩ := T.t_Coast_init.ex; exact ⟨C, f, fd, _, M, fn_initI F sc_Coast_init (by rfl) (by rfl) (by decide) (b_Coast_init T TX c_is_row c_is_tuple_of c_is_name c_is_character f), hm, b⟩
def d_text_of : M3 :=
 (sSeq (sSet 1 (mLst mNil))
 (sSeq (sSet 2 (mC (.int 0)))
 (sSeq (sFor (mRng2 (mCons (mC (.int 1)) (mCons (m2 (.ex) (.ex) dPlus (mFn [.ex] (f1 dLen) (mCons (mVar 0) mNil)) (mC (.int 1))) mNil))) (gfN 3) (sIf (mOrT (mB (m2 (.ex) (.ex) dEq (mVar 3) (mFn [.ex] (f1 dLen) (mCons (mVar 0) mNil)))) (mB (m2 (.ex) (.ex) dNe (m2 (.ex) (.ex) dIx (mVar 0) (mVar 3)) (m2 (.ex) (.ex) dIx (mVar 0) (mVar 2))))) (sSeq (sMut 1 muAppend (mCons (m2 (.ex) (.ex) dPlus (mGIx [([35], [76]), ([46], [68])] (m2 (.ex) (.ex) dIx (mVar 0) (mVar 2))) (mFn [.ex] (f1 dStrI) (mCons (m2 (.ex) (.ex) dMinus (mVar 3) (mVar 2)) mNil))) mNil))
 (sSet 2 (mVar 3))) sSkip))
 (sRet (mMt "str" (.ex) [.sl 1] dJoin (mC (.str [32])) (mCons (mVar 1) mNil))))))
def F_text_of : List D → FR := denP 4 d_text_of
theorem b_text_of (T : Top K mg) (TX : Tex w K mg base)  : ∀ f, BodyOk PR w K mg base ["character", "words", "begin", "at"] "text_of" s_text_of f 0 [] [.fr, .own .fr, .fr, .fr] .fr d_text_of := by
  intro f cdv A0 outer s H E C
  have hN : (["character", "words", "begin", "at"] : List Str).Nodup := sc_text_of.nd
  have hu := C.room.units; have hu2 := C.room.units1; have hu1 := Nat.lt_of_le_of_lt (Nat.add_le_add_left (by decide : 1 ≤ 64) _) C.room.units
  exact (bv_cons (sv_set 1 (ev_lstO av_nil))
 (bv_cons (sv_set 2 ev_int)
 (bv_cons (sv_for C.po C.calm (iv_rng2 (by rfl) T.b_range (av_cons (ev_int).ov (av_cons ((ev_plus ((ev_fn call_len pure_len (by rfl) T.b_len (by decide +kernel) (av_cons ((ev_var 0)).ov av_nil))).ov (ev_int).ov)).ov av_nil))) (gv_name 3) (bv_one (sv_if (WV.tv (wv_or (tv_cmp (op_eqG (by exact hu)) pure_eq ((ev_var 3)).ov ((ev_fn call_len pure_len (by rfl) T.b_len (by decide +kernel) (av_cons ((ev_var 0)).ov av_nil))).ov (by first | exact nomark _ | with_unfolding_all rfl)) (wv_or1 (tv_cmp (op_neG (by exact hu)) pure_ne ((ev_ix ix_seq pure_ix ((ev_var 0)).ov ((ev_var 3)).ov)).ov ((ev_ix ix_seq pure_ix ((ev_var 0)).ov ((ev_var 2)).ov)).ov (by first | exact nomark _ | with_unfolding_all rfl))))) (bv_cons (sv_append 1 (pe_var (i := 1) (by rfl) (by first | exact Or.inl rfl | exact Or.inr (Or.inl rfl) | exact Or.inr (Or.inr rfl))) (av_cons ((ev_plus ((ev_gix [([35], [76]), ([46], [68])] TX.d_LETTERS_OF (by rfl) (ev_ix ix_seq pure_ix ((ev_var 0)).ov ((ev_var 2)).ov))).ov ((ev_ty call_str_int pure_strI (by rfl) T.b_str (by decide +kernel) (av_cons ((ev_minus ((ev_var 3)).ov ((ev_var 2)).ov)).ov av_nil))).ov)).ov av_nil))
 (bv_one (sv_set 2 (ev_var 3)))) bv_nil)))
 (bv_one (sv_ret (ev_mt PySem.F.plainAttrs_str PySem.F.slot_str_join PySem.F.type_str_join mt_join pure_join ((ev_str [32])).ov (av_cons (ov_sl 1) av_nil)))))))
theorem c_text_of (T : Top K mg) (TX : Tex w K mg base)  : CalP PR w K mg base 1 "text_of" 1 .fr F_text_of := by
  obtain ⟨f, fd, F, hm, b⟩ := T.t_text_of.ex; exact ⟨f, fd, _, fn_pure F sc_text_of (by rfl) (by decide) (b_text_of T TX  f), hm, F.kp, b⟩
def d_character_in : M3 :=
 (sSeq (sSet 1 (mC (.str [])))
 (sSeq (sFor (mIt (mMt "str" (.ex) [.ex] dSplit (mVar 0) (mCons (mC (.str [32])) mNil))) (gfN 2) (sSeq (sSet 3 (mCall F_as_count (mCons (mCut (.ex) (mVar 2) (mSoI (mC (.int 1))) mNoI) (mCons (mC (.int 12)) mNil))))
 (sSeq (sIf (mOrT (mB (mGIn true [([76], [35]), ([68], [46])] (mCut (.ex) (mVar 2) mNoI (mSoI (mC (.int 1)))))) (mB (m2 (.ex) (.ex) dIsN (mVar 3) (mC .non)))) (sRet (mC .non)) sSkip)
 (sSeq (sSet 4 (mGIx [([76], [35]), ([68], [46])] (mCut (.ex) (mVar 2) mNoI (mSoI (mC (.int 1))))))
 (sSeq (sIf (mOrT (mAndT (mB (m2 (.ex) (.ex) dGt (mFn [.ex] (f1 dLen) (mCons (mVar 1) mNil)) (mC (.int 0)))) (mB (m2 (.ex) (.ex) dEq (m2 (.ex) (.ex) dIx (mVar 1) (mNeg (mC (.int 1)))) (mVar 4)))) (mB (m2 (.ex) (.ex) dGt (m2 (.ex) (.ex) dPlus (mFn [.ex] (f1 dLen) (mCons (mVar 1) mNil)) (mVar 3)) (mC (.int 12))))) (sRet (mC .non)) sSkip)
 (sSet 1 (m2 (.ex) (.ex) dPlus (mVar 1) (m2 (.ex) (.ex) dTimes (mVar 4) (mVar 3)))))))))
 (sRet (mVar 1))))
def F_character_in : List D → FR := denP 5 d_character_in
theorem b_character_in (T : Top K mg) (TX : Tex w K mg base) (c_as_count : CalP PR w K mg base 2 "as_count" 2 .fr F_as_count) : ∀ f, BodyOk PR w K mg base ["text", "found", "word", "many", "sign"] "character_in" s_character_in f 2 [] [.fr, .fr, .fr, .fr, .fr] .fr d_character_in := by
  intro f cdv A0 outer s H E C
  have hN : (["text", "found", "word", "many", "sign"] : List Str).Nodup := sc_character_in.nd
  have hu := C.room.units; have hu2 := C.room.units1; have hu1 := Nat.lt_of_le_of_lt (Nat.add_le_add_left (by decide : 1 ≤ 64) _) C.room.units
  exact (bv_cons (sv_set 1 (ev_str []))
 (bv_cons (sv_for C.po C.calm (iv_any (ev_mt PySem.F.plainAttrs_str PySem.F.slot_str_split PySem.F.type_str_split mt_split pure_split ((ev_var 0)).ov (av_cons ((ev_str [32])).ov av_nil))) (gv_name 2) (bv_cons (sv_set 3 (ev_call c_as_count C.room C.tk (by rfl) (av_cons ((ev_cut ((ev_var 2)).ov (oi_some ev_int) oi_none)).ov (av_cons ((ev_gint (12) (by rfl) T.g_MOST_LENGTH)).ov av_nil)) (hk := by first | decide | omega)))
 (bv_cons (sv_if (WV.tv (wv_or (tv_gnotin [([76], [35]), ([68], [46])] TX.d_SIGNS_OF (by rfl) (ev_cut ((ev_var 2)).ov oi_none (oi_some ev_int)) (by first | exact nomark _ | with_unfolding_all rfl)) (wv_or1 (tv_cmp op_isN pure_isN ((ev_var 3)).ov (ev_non).ov (by first | exact nomark _ | with_unfolding_all rfl))))) (bv_one (sv_ret ev_non)) bv_nil)
 (bv_cons (sv_set 4 (ev_gix [([76], [35]), ([68], [46])] TX.d_SIGNS_OF (by rfl) (ev_cut ((ev_var 2)).ov oi_none (oi_some ev_int))))
 (bv_cons (sv_if (WV.tv (wv_or (WV.tv (wv_and (tv_cmp op_gtG pure_gt ((ev_fn call_len pure_len (by rfl) T.b_len (by decide +kernel) (av_cons ((ev_var 1)).ov av_nil))).ov (ev_int).ov (by first | exact nomark _ | with_unfolding_all rfl)) (wv_and1 (tv_cmp (op_eqG (by exact hu)) pure_eq ((ev_ix ix_seq pure_ix ((ev_var 1)).ov ((ev_neg ev_int)).ov)).ov ((ev_var 4)).ov (by first | exact nomark _ | with_unfolding_all rfl))))) (wv_or1 (tv_cmp op_gtG pure_gt ((ev_plus ((ev_fn call_len pure_len (by rfl) T.b_len (by decide +kernel) (av_cons ((ev_var 1)).ov av_nil))).ov ((ev_var 3)).ov)).ov ((ev_gint (12) (by rfl) T.g_MOST_LENGTH)).ov (by first | exact nomark _ | with_unfolding_all rfl))))) (bv_one (sv_ret ev_non)) bv_nil)
 (bv_one (sv_set 1 (ev_plus ((ev_var 1)).ov ((ev_times ((ev_var 4)).ov ((ev_var 3)).ov)).ov))))))))
 (bv_one (sv_ret (ev_var 1)))))
theorem c_character_in (T : Top K mg) (TX : Tex w K mg base) (c_as_count : CalP PR w K mg base 2 "as_count" 2 .fr F_as_count) : CalP PR w K mg base 3 "character_in" 1 .fr F_character_in := by
  obtain ⟨f, fd, F, hm, b⟩ := T.t_character_in.ex; exact ⟨f, fd, _, fn_pure F sc_character_in (by rfl) (by decide) (b_character_in T TX c_as_count f), hm, F.kp, b⟩
def d_coast_text : M3 :=
 (sRet (mMt "str" (.ex) [.ex] dJoin (mC (.str [10])) (mCons (mLc none [1, 2] (mIt (mFld "Coast" "lights" (mVar 0))) (gfT (gfCons (gfN 1) (gfCons (gfN 2) gfNil))) mYes (m2 (.ex) (.ex) dPlus (m2 (.ex) (.ex) dPlus (mVar 1) (mC (.str [32]))) (mCall F_text_of (mCons (mVar 2) mNil)))) mNil)))
def F_coast_text : List D → FR := denP 3 d_coast_text
theorem b_coast_text (T : Top K mg) (TX : Tex w K mg base) (c_text_of : CalP PR w K mg base 1 "text_of" 1 .fr F_text_of) : ∀ f, BodyOk PR w K mg base ["coast", "name", "character"] "coast_text" s_coast_text f 1 [] [.fr, .fr, .fr] .fr d_coast_text := by
  intro f cdv A0 outer s H E C
  have hN : (["coast", "name", "character"] : List Str).Nodup := sc_coast_text.nd
  have hu := C.room.units; have hu2 := C.room.units1; have hu1 := Nat.lt_of_le_of_lt (Nat.add_le_add_left (by decide : 1 ≤ 64) _) C.room.units
  exact (bv_one (sv_ret (ev_mt PySem.F.plainAttrs_str PySem.F.slot_str_join PySem.F.type_str_join mt_join pure_join ((ev_str [10])).ov (av_cons (((ev_lcT [("name", 1), ("character", 2)] C.calm (iv_any (ev_fldT T.f_Coast_lights (ev_var 0))) (blkOk_by (N := ["coast", "name", "character"]) (sc := defScope s_coast_text) (by first | decide +kernel | kernel_rfl)) (fun s0 H0 C0 cl0 fp0 => (gt_tup 2 (by exact C.calm) (gs_cons (gv_name 1) (gs_cons (gv_name 2) gs_nil)) (gf_cons (gf_cons gf_nil)))) (fun s0 H0 C0 cl0 fp0 => (ev_plus ((ev_plus ((ev_var 1)).ov ((ev_str [32])).ov)).ov ((ev_call (by exact c_text_of) (by exact C.room) (takes_none) (by rfl) (av_cons ((ev_var 2)).ov av_nil) (hk := by first | decide | omega))).ov)))).fz).ov av_nil))))
theorem c_coast_text (T : Top K mg) (TX : Tex w K mg base) (c_text_of : CalP PR w K mg base 1 "text_of" 1 .fr F_text_of) : CalP PR w K mg base 2 "coast_text" 1 .fr F_coast_text := by
  obtain ⟨f, fd, F, hm, b⟩ := T.t_coast_text.ex; exact ⟨f, fd, _, fn_pure F sc_coast_text (by rfl) (by decide) (b_coast_text T TX c_text_of f), hm, F.kp, b⟩
def d_read_coast : M3 :=
 (sSeq (sIf (mNot (mB (mIsa "str" (.ex) (mVar 0)))) (sRaise "BadRow" (mC (.int 0))) sSkip)
 (sSeq (sSet 1 (mLst mNil))
 (sSeq (sFor (mEnum (mMt "str" (.ex) [.ex] dSplit (mVar 0) (mCons (mC (.str [10])) mNil))) (gfT (gfCons (gfN 2) (gfCons (gfN 3) gfNil))) (sSeq (sSet 4 (mMt "str" (.ex) [.ex] dSplit (mVar 3) (mCons (mC (.str [32])) mNil)))
 (sSeq (sSet 5 (m2 (.ex) (.ex) dIx (mVar 4) (mC (.int 0))))
 (sSeq (sSet 6 (mCall F_character_in (mCons (mMt "str" (.ex) [.ex] dJoin (mC (.str [32])) (mCons (mCut (.ex) (mVar 4) (mSoI (mC (.int 1))) mNoI) mNil)) mNil)))
 (sSeq (sSet 7 (mLc (some 1) [8, 9] (mItL (mVar 1)) (gfT (gfCons (gfN 8) (gfCons (gfN 9) gfNil))) mYes (mVar 8)))
 (sSeq (sIf (mOrT (mNot (mB (mCall F_is_name (mCons (mVar 5) mNil)))) (mOrT (mB (m2 (.ex) (.ex) dIn (mVar 5) (mVar 7))) (mOrT (mB (m2 (.ex) (.ex) dIsN (mVar 6) (mC .non))) (mB (m2 (.ex) (.ex) dEq (mFn [.sl 1] (f1 dLen) (mCons (mVar 1) mNil)) (mC (.int 12))))))) (sRaise "BadRow" (m2 (.ex) (.ex) dPlus (mVar 2) (mC (.int 1)))) sSkip)
 (sMut 1 muAppend (mCons (mTup (mCons (mVar 5) (mCons (mVar 6) mNil))) mNil))))))))
 (sRet (mCall F_Coast_init (mCons (mFrz 1) mNil))))))
def F_read_coast : List D → FR := denP 10 d_read_coast
theorem b_read_coast (T : Top K mg) (TX : Tex w K mg base) (c_character_in : CalP PR w K mg base 3 "character_in" 1 .fr F_character_in) (c_is_name : CalP PR w K mg base 1 "is_name" 1 .fr F_is_name) (c_Coast_init : CalI PR w K mg base 3 "Coast" 1 F_Coast_init) : ∀ f, BodyOk PR w K mg base ["text", "lights", "number", "line", "words", "name", "character", "names", "one", "_"] "read_coast" s_read_coast f 4 [] [.fr, .own .fr, .fr, .fr, .fr, .fr, .fr, .fr, .fr, .fr] .fr d_read_coast := by
  intro f cdv A0 outer s H E C
  have hN : (["text", "lights", "number", "line", "words", "name", "character", "names", "one", "_"] : List Str).Nodup := sc_read_coast.nd
  have hu := C.room.units; have hu2 := C.room.units1; have hu1 := Nat.lt_of_le_of_lt (Nat.add_le_add_left (by decide : 1 ≤ 64) _) C.room.units
  exact (bv_cons (sv_if (tv_not (tv_val (ev_isa "str" (by rfl) T.b_isinstance (by rfl) T.b_str (by decide +kernel) ((ev_var 0)).ov))) (bv_one (sv_raise TX.x_BadRow C.room C.calm C.tk (by rfl) ev_int (hk := by first | decide | omega))) bv_nil)
 (bv_cons (sv_set 1 (ev_lstO av_nil))
 (bv_cons (sv_forT C.po C.calm (iv_enum (by rfl) T.b_enumerate (ev_mt PySem.F.plainAttrs_str PySem.F.slot_str_split PySem.F.type_str_split mt_split pure_split ((ev_var 0)).ov (av_cons ((ev_str [10])).ov av_nil))) (gt_tup 2 C.calm (gs_cons (gv_name 2) (gs_cons (gv_name 3) gs_nil)) (gf_cons (gf_cons gf_nil))) (bv_cons (sv_set 4 (ev_mt PySem.F.plainAttrs_str PySem.F.slot_str_split PySem.F.type_str_split mt_split pure_split ((ev_var 3)).ov (av_cons ((ev_str [32])).ov av_nil)))
 (bv_cons (sv_set 5 (ev_ix ix_seq pure_ix ((ev_var 4)).ov (ev_int).ov))
 (bv_cons (sv_set 6 (ev_call c_character_in C.room C.tk (by rfl) (av_cons ((ev_mt PySem.F.plainAttrs_str PySem.F.slot_str_join PySem.F.type_str_join mt_join pure_join ((ev_str [32])).ov (av_cons ((ev_cut ((ev_var 4)).ov (oi_some ev_int) oi_none)).ov av_nil))).ov av_nil) (hk := by first | decide | omega)))
 (bv_cons (sv_lcT 7 [("one", 8), ("_", 9)] C.calm (iv_sl 1) (blkOk_by (N := ["text", "lights", "number", "line", "words", "name", "character", "names", "one", "_"]) (sc := defScope s_read_coast) (by first | decide +kernel | kernel_rfl)) (fun s0 H0 C0 cl0 fp0 => (gt_tup 2 (by exact C.calm) (gs_cons (gv_name 8) (gs_cons (gv_name 9) gs_nil)) (gf_cons (gf_cons gf_nil)))) (fun s0 H0 C0 cl0 fp0 => (ev_var 8)))
 (bv_cons (sv_if (WV.tv (wv_or (tv_not (tv_val (ev_call c_is_name C.room C.tk (by rfl) (av_cons ((ev_var 5)).ov av_nil) (hk := by first | decide | omega)))) (wv_or (tv_cmp (op_inG (by exact hu2)) pure_in ((ev_var 5)).ov ((ev_var 7)).ov (by first | exact nomark _ | with_unfolding_all rfl)) (wv_or (tv_cmp op_isN pure_isN ((ev_var 6)).ov (ev_non).ov (by first | exact nomark _ | with_unfolding_all rfl)) (wv_or1 (tv_cmp (op_eqG (by exact hu)) pure_eq ((ev_fn call_len pure_len (by rfl) T.b_len (by decide +kernel) (av_cons (ov_sl 1) av_nil))).ov ((ev_gint (12) (by rfl) T.g_MOST_LIGHTS)).ov (by first | exact nomark _ | with_unfolding_all rfl))))))) (bv_one (sv_raise TX.x_BadRow C.room C.calm C.tk (by rfl) (ev_plus ((ev_var 2)).ov (ev_int).ov) (hk := by first | decide | omega))) bv_nil)
 (bv_one (sv_append 1 (pe_var (i := 1) (by rfl) (by first | exact Or.inl rfl | exact Or.inr (Or.inl rfl) | exact Or.inr (Or.inr rfl))) (av_cons ((ev_tup (av_cons ((ev_var 5)).ov (av_cons ((ev_var 6)).ov av_nil)))).ov av_nil)))))))))
 (bv_one (sv_ret (ev_make c_Coast_init C.room C.tk (by rfl) (av_cons ((ev_frz 1)).ov av_nil) (hk := by first | decide | omega)))))))
theorem c_read_coast (T : Top K mg) (TX : Tex w K mg base) (c_character_in : CalP PR w K mg base 3 "character_in" 1 .fr F_character_in) (c_is_name : CalP PR w K mg base 1 "is_name" 1 .fr F_is_name) (c_Coast_init : CalI PR w K mg base 3 "Coast" 1 F_Coast_init) : CalP PR w K mg base 5 "read_coast" 1 .fr F_read_coast := by
  obtain ⟨f, fd, F, hm, b⟩ := T.t_read_coast.ex; exact ⟨f, fd, _, fn_pure F sc_read_coast (by rfl) (by decide) (b_read_coast T TX c_character_in c_is_name c_Coast_init f), hm, F.kp, b⟩
def d_law_taken : M3 :=
 (sSeq (sIf (mB (m2 (.ex) (.ex) dGt (m2 (.sl 0) (.ex) dIx (mVar 0) (mC (.int 3))) (mC (.int 0)))) (sSeq (sSet 2 (m2 (.ex) (.ex) dMod (mFn [.ex] (f1 dInt) (mCons (m2 (.sl 0) (.ex) dIx (mVar 0) (mC (.int 3))) mNil)) (mVar 1)))
 (sSeq (sStore 0 (m2 (.ex) (.ex) dDiv (m2 (.sl 0) (.ex) dIx (mVar 0) (mC (.int 3))) (mVar 1)) (mC (.int 3)))
 (sRet (mVar 2)))) sSkip)
 (sSeq (sStore 0 (m2 (.ex) (.ex) dPlus (m2 (.sl 0) (.ex) dIx (mVar 0) (mC (.int 1))) (mC (.int 1))) (mC (.int 1)))
 (sSeq (sIf (mB (m2 (.ex) (.ex) dGt (m2 (.sl 0) (.ex) dIx (mVar 0) (mC (.int 1))) (mFn [.ex] (f1 dLen) (mCons (m2 (.sl 0) (.ex) dIx (mVar 0) (mC (.int 0))) mNil)))) (sSeq (sStore 0 (m2 (.ex) (.ex) dMod (mFn [.ex] (f1 dInt) (mCons (m2 (.ex) (.ex) dPlus (m2 (.ex) (.ex) dTimes (m2 (.sl 0) (.ex) dIx (mVar 0) (mC (.int 2))) (mC (.int 48271))) (mC (.int 11))) mNil)) (mC (.int 2147483647))) (mC (.int 2)))
 (sRet (m2 (.ex) (.ex) dMod (mFn [.ex] (f1 dInt) (mCons (m2 (.ex) (.ex) dDiv (m2 (.sl 0) (.ex) dIx (mVar 0) (mC (.int 2))) (mC (.int 7))) mNil)) (mVar 1)))) sSkip)
 (sSeq (sSet 3 (m2 (.ex) (.ex) dIx (m2 (.sl 0) (.ex) dIx (mVar 0) (mC (.int 0))) (m2 (.ex) (.ex) dMinus (m2 (.sl 0) (.ex) dIx (mVar 0) (mC (.int 1))) (mC (.int 1)))))
 (sSeq (sStore 0 (m2 (.ex) (.ex) dMod (mFn [.ex] (f1 dInt) (mCons (m2 (.ex) (.ex) dPlus (m2 (.ex) (.ex) dPlus (m2 (.ex) (.ex) dTimes (m2 (.sl 0) (.ex) dIx (mVar 0) (mC (.int 2))) (mC (.int 48271))) (mVar 3)) (mC (.int 11))) mNil)) (mC (.int 2147483647))) (mC (.int 2)))
 (sSeq (sIf (mB (m2 (.ex) (.ex) dGe (mVar 3) (m2 (.ex) (.ex) dPow (mC (.int 10)) (mC (.int 18))))) (sStore 0 (m2 (.ex) (.ex) dDiv (mVar 3) (mVar 1)) (mC (.int 3))) sSkip)
 (sRet (m2 (.ex) (.ex) dMod (mFn [.ex] (f1 dInt) (mCons (mVar 3) mNil)) (mVar 1)))))))))
def F_law_taken : List D → List D → FRr := denR 4 d_law_taken
theorem b_law_taken (T : Top K mg) (TX : Tex w K mg base)  : ∀ f, BodyOk PR w K mg base ["row", "many", "found", "cell"] "_law_taken" s_law_taken f 0 [0] [.own .fr, .fr, .fr, .fr] .fr d_law_taken := by
  intro f cdv A0 outer s H E C
  have hN : (["row", "many", "found", "cell"] : List Str).Nodup := sc_law_taken.nd
  have hu := C.room.units; have hu2 := C.room.units1; have hu1 := Nat.lt_of_le_of_lt (Nat.add_le_add_left (by decide : 1 ≤ 64) _) C.room.units
  exact (bv_cons (sv_if (tv_cmp op_gtG pure_gt ((ev_ix ix_seq pure_ix (ov_sl 0) (ev_int).ov)).ov (ev_int).ov (by first | exact nomark _ | with_unfolding_all rfl)) (bv_cons (sv_set 2 (ev_mod ((ev_ty call_int1 pure_int (by rfl) T.b_int (by decide +kernel) (av_cons ((ev_ix ix_seq pure_ix (ov_sl 0) (ev_int).ov)).ov av_nil))).ov ((ev_var 1)).ov))
 (bv_cons (sv_store 0 (pe_var (i := 0) (by rfl) (by first | exact Or.inl rfl | exact Or.inr (Or.inl rfl) | exact Or.inr (Or.inr rfl))) ev_int (ev_div ((ev_ix ix_seq pure_ix (ov_sl 0) (ev_int).ov)).ov ((ev_var 1)).ov))
 (bv_one (sv_ret (ev_var 2))))) bv_nil)
 (bv_cons (sv_store 0 (pe_var (i := 0) (by rfl) (by first | exact Or.inl rfl | exact Or.inr (Or.inl rfl) | exact Or.inr (Or.inr rfl))) ev_int (ev_plus ((ev_ix ix_seq pure_ix (ov_sl 0) (ev_int).ov)).ov (ev_int).ov))
 (bv_cons (sv_if (tv_cmp op_gtG pure_gt ((ev_ix ix_seq pure_ix (ov_sl 0) (ev_int).ov)).ov ((ev_fn call_len pure_len (by rfl) T.b_len (by decide +kernel) (av_cons ((ev_ix ix_seq pure_ix (ov_sl 0) (ev_int).ov)).ov av_nil))).ov (by first | exact nomark _ | with_unfolding_all rfl)) (bv_cons (sv_store 0 (pe_var (i := 0) (by rfl) (by first | exact Or.inl rfl | exact Or.inr (Or.inl rfl) | exact Or.inr (Or.inr rfl))) ev_int (ev_mod ((ev_ty call_int1 pure_int (by rfl) T.b_int (by decide +kernel) (av_cons ((ev_plus ((ev_times ((ev_ix ix_seq pure_ix (ov_sl 0) (ev_int).ov)).ov (ev_int).ov)).ov (ev_int).ov)).ov av_nil))).ov (ev_int).ov))
 (bv_one (sv_ret (ev_mod ((ev_ty call_int1 pure_int (by rfl) T.b_int (by decide +kernel) (av_cons ((ev_div ((ev_ix ix_seq pure_ix (ov_sl 0) (ev_int).ov)).ov (ev_int).ov)).ov av_nil))).ov ((ev_var 1)).ov)))) bv_nil)
 (bv_cons (sv_set 3 (ev_ix ix_seq pure_ix ((ev_ix ix_seq pure_ix (ov_sl 0) (ev_int).ov)).ov ((ev_minus ((ev_ix ix_seq pure_ix (ov_sl 0) (ev_int).ov)).ov (ev_int).ov)).ov))
 (bv_cons (sv_store 0 (pe_var (i := 0) (by rfl) (by first | exact Or.inl rfl | exact Or.inr (Or.inl rfl) | exact Or.inr (Or.inr rfl))) ev_int (ev_mod ((ev_ty call_int1 pure_int (by rfl) T.b_int (by decide +kernel) (av_cons ((ev_plus ((ev_plus ((ev_times ((ev_ix ix_seq pure_ix (ov_sl 0) (ev_int).ov)).ov (ev_int).ov)).ov ((ev_var 3)).ov)).ov (ev_int).ov)).ov av_nil))).ov (ev_int).ov))
 (bv_cons (sv_if (tv_cmp op_geG pure_ge ((ev_var 3)).ov ((ev_pow (ev_int).ov (ev_int).ov)).ov (by first | exact nomark _ | with_unfolding_all rfl)) (bv_one (sv_store 0 (pe_var (i := 0) (by rfl) (by first | exact Or.inl rfl | exact Or.inr (Or.inl rfl) | exact Or.inr (Or.inr rfl))) ev_int (ev_div ((ev_var 3)).ov ((ev_var 1)).ov))) bv_nil)
 (bv_one (sv_ret (ev_mod ((ev_ty call_int1 pure_int (by rfl) T.b_int (by decide +kernel) (av_cons ((ev_var 3)).ov av_nil))).ov ((ev_var 1)).ov)))))))))
theorem c_law_taken (T : Top K mg) (TX : Tex w K mg base)  : CalR PR w K mg base 1 "_law_taken" 1 .fr F_law_taken := by
  obtain ⟨f, fd, F, hm, b⟩ := T.t_law_taken.ex; exact ⟨f, fd, _, fn_row F sc_law_taken (by rfl) (by rfl) (by decide) (b_law_taken T TX  f), hm, F.kp, b⟩
def d_law_pick : M3 :=
 (sRet (m2 (.ex) (.ex) dIx (mVar 1) (mCallR 0 F_law_taken (mCons (mFn [.ex] (f1 dLen) (mCons (mVar 1) mNil)) mNil))))
def F_law_pick : List D → List D → FRr := denR 2 d_law_pick
theorem b_law_pick (T : Top K mg) (TX : Tex w K mg base) (c_law_taken : CalR PR w K mg base 1 "_law_taken" 1 .fr F_law_taken) : ∀ f, BodyOk PR w K mg base ["row", "some"] "_law_pick" s_law_pick f 1 [0] [.own .fr, .fr] .fr d_law_pick := by
  intro f cdv A0 outer s H E C
  have hN : (["row", "some"] : List Str).Nodup := sc_law_pick.nd
  have hu := C.room.units; have hu2 := C.room.units1; have hu1 := Nat.lt_of_le_of_lt (Nat.add_le_add_left (by decide : 1 ≤ 64) _) C.room.units
  exact (bv_one (sv_ret (ev_ix ix_seq pure_ix ((ev_var 1)).ov ((ev_callR 0 c_law_taken C.room C.tk (by rfl) (pe_var (i := 0) (by rfl) (by first | exact Or.inl rfl | exact Or.inr (Or.inl rfl) | exact Or.inr (Or.inr rfl))) (av_cons ((ev_fn call_len pure_len (by rfl) T.b_len (by decide +kernel) (av_cons ((ev_var 1)).ov av_nil))).ov av_nil) (hk := by first | decide | omega))).ov)))
theorem c_law_pick (T : Top K mg) (TX : Tex w K mg base) (c_law_taken : CalR PR w K mg base 1 "_law_taken" 1 .fr F_law_taken) : CalR PR w K mg base 2 "_law_pick" 1 .fr F_law_pick := by
  obtain ⟨f, fd, F, hm, b⟩ := T.t_law_pick.ex; exact ⟨f, fd, _, fn_row F sc_law_pick (by rfl) (by rfl) (by decide) (b_law_pick T TX c_law_taken f), hm, F.kp, b⟩
def d_law_pickQ : M3 :=
 (sRet (m2 (.sl 1) (.ex) dIx (mVar 1) (mCallR 0 F_law_taken (mCons (mFn [.sl 1] (f1 dLen) (mCons (mVar 1) mNil)) mNil))))
def F_law_pickQ : List D → List D → List D → FRq := denQ 2 d_law_pickQ
theorem b_law_pickQ (T : Top K mg) (TX : Tex w K mg base) (c_law_taken : CalR PR w K mg base 1 "_law_taken" 1 .fr F_law_taken) : ∀ f, BodyOk PR w K mg base ["row", "some"] "_law_pick" s_law_pickQ f 1 [0, 1] [.own .fr, .own .fr] .fr d_law_pickQ := by
  intro f cdv A0 outer s H E C
  have hN : (["row", "some"] : List Str).Nodup := sc_law_pickQ.nd
  have hu := C.room.units; have hu2 := C.room.units1; have hu1 := Nat.lt_of_le_of_lt (Nat.add_le_add_left (by decide : 1 ≤ 64) _) C.room.units
  exact (bv_one (sv_ret (ev_ix ix_seq pure_ix (ov_sl 1) ((ev_callR 0 c_law_taken C.room C.tk (by rfl) (pe_var (i := 0) (by rfl) (by first | exact Or.inl rfl | exact Or.inr (Or.inl rfl) | exact Or.inr (Or.inr rfl))) (av_cons ((ev_fn call_len pure_len (by rfl) T.b_len (by decide +kernel) (av_cons (ov_sl 1) av_nil))).ov av_nil) (hk := by first | decide | omega))).ov)))
theorem c_law_pickQ (T : Top K mg) (TX : Tex w K mg base) (c_law_taken : CalR PR w K mg base 1 "_law_taken" 1 .fr F_law_taken) : CalQ PR w K mg base 2 "_law_pick" 0 .fr F_law_pickQ := by
  obtain ⟨f, fd, F, hm, b⟩ := T.t_law_pickQ.ex; exact ⟨f, fd, _, fn_rowQ F sc_law_pickQ (by rfl) (by rfl) (by rfl) (by decide) (b_law_pickQ T TX c_law_taken f), hm, F.kp, b⟩
def d_law_alike (A : List D → FR) : M3 :=
 (sSeq (sIf (mB (mIsa2 "tuple" "list" (.ex) (mVar 1))) (sSeq (sIf (mOrT (mNot (mB (mIsa2 "tuple" "list" (.ex) (mVar 0)))) (mB (m2 (.ex) (.ex) dNe (mIsa "list" (.ex) (mVar 0)) (mIsa "list" (.ex) (mVar 1))))) (sRet (mC (.bl false))) sSkip)
 (sSeq (sIf (mB (m2 (.ex) (.ex) dNe (mFn [.ex] (f1 dLen) (mCons (mVar 0) mNil)) (mFn [.ex] (f1 dLen) (mCons (mVar 1) mNil)))) (sRet (mC (.bl false))) sSkip)
 (sRet (m2 (.ex) (.ex) dEq (mLc none [2] (mRng1 (mCons (mFn [.ex] (f1 dLen) (mCons (mVar 1) mNil)) mNil)) (gfN 2) (mNot (mB (mCall A (mCons (m2 (.ex) (.ex) dIx (mVar 0) (mVar 2)) (mCons (m2 (.ex) (.ex) dIx (mVar 1) (mVar 2)) mNil))))) (mVar 2)) (mLst mNil))))) sSkip)
 (sSeq (sIf (mB (mIsa "dict" (.ex) (mVar 1))) (sSeq (sIf (mOrT (mNot (mB (mIsa "dict" (.ex) (mVar 0)))) (mB (m2 (.ex) (.ex) dNe (mFnN [.ex] (f1N dKeysL) (mCons (mVar 0) mNil)) (mFnN [.ex] (f1N dKeysL) (mCons (mVar 1) mNil))))) (sRet (mC (.bl false))) sSkip)
 (sRet (m2 (.ex) (.ex) dEq (mLc none [3] (mItK (mVar 1)) (gfN 3) (mNot (mB (mCall A (mCons (m2 .ex .ex dDGet (mVar 0) (mVar 3)) (mCons (m2 .ex .ex dDGet (mVar 1) (mVar 3)) mNil))))) (mVar 3)) (mLst mNil)))) sSkip)
 (sSeq (sIf (mOrT (mB (m2 (.ex) (.ex) dIsN (mVar 1) (mC .non))) (mB (mIsa "str" (.ex) (mVar 1)))) (sRet (mAnd (m2 (.ex) (.ex) dEq (mVar 0) (mVar 1)) (m2 (.ex) (.ex) dEq (mIsa "str" (.ex) (mVar 0)) (mIsa "str" (.ex) (mVar 1))))) sSkip)
 (sRet (mAnd (mIsa "int" (.ex) (mVar 0)) (mAnd (m2 (.ex) (.ex) dEq (mIsa "bool" (.ex) (mVar 0)) (mIsa "bool" (.ex) (mVar 1))) (m2 (.ex) (.ex) dEq (mVar 0) (mVar 1))))))))
def F_law_alike : Nat → List D → FR
  | 0 => denP 4 sStk
  | n + 1 => denP 4 (d_law_alike (F_law_alike n))
theorem b_law_alike (T : Top K mg) (TX : Tex w K mg base)  {k : Nat} (hk : 0 ≤ k) {A : List D → FR} (cA : CalP PR w K mg base k "_law_alike" 2 .fr A) : ∀ f, BodyOk PR w K mg base ["found", "due", "k", "key"] "_law_alike" s_law_alike f k [] [.fr, .fr, .fr, .fr] .fr (d_law_alike A) := by
  intro f cdv A0 outer s H E C
  have hN : (["found", "due", "k", "key"] : List Str).Nodup := sc_law_alike.nd
  have hu := C.room.units; have hu2 := C.room.units1; have hu1 := Nat.lt_of_le_of_lt (Nat.add_le_add_left (by decide : 1 ≤ 64) _) C.room.units
  exact (bv_cons (sv_if (tv_val (ev_isa2 "tuple" "list" (by rfl) T.b_isinstance (by rfl) T.b_tuple (by decide +kernel) (by rfl) T.b_list (by decide +kernel) ((ev_var 1)).ov)) (bv_cons (sv_if (WV.tv (wv_or (tv_not (tv_val (ev_isa2 "tuple" "list" (by rfl) T.b_isinstance (by rfl) T.b_tuple (by decide +kernel) (by rfl) T.b_list (by decide +kernel) ((ev_var 0)).ov))) (wv_or1 (tv_cmp (op_neG (by exact hu)) pure_ne ((ev_isa "list" (by rfl) T.b_isinstance (by rfl) T.b_list (by decide +kernel) ((ev_var 0)).ov)).ov ((ev_isa "list" (by rfl) T.b_isinstance (by rfl) T.b_list (by decide +kernel) ((ev_var 1)).ov)).ov (by first | exact nomark _ | with_unfolding_all rfl))))) (bv_one (sv_ret ev_bl)) bv_nil)
 (bv_cons (sv_if (tv_cmp (op_neG (by exact hu)) pure_ne ((ev_fn call_len pure_len (by rfl) T.b_len (by decide +kernel) (av_cons ((ev_var 0)).ov av_nil))).ov ((ev_fn call_len pure_len (by rfl) T.b_len (by decide +kernel) (av_cons ((ev_var 1)).ov av_nil))).ov (by first | exact nomark _ | with_unfolding_all rfl)) (bv_one (sv_ret ev_bl)) bv_nil)
 (bv_one (sv_ret (ev_cmp (op_eqG (by exact hu)) pure_eq (((ev_lcI [("k", 2)] C.calm (iv_rng1 (by rfl) T.b_range (av_cons ((ev_fn call_len pure_len (by rfl) T.b_len (by decide +kernel) (av_cons ((ev_var 1)).ov av_nil))).ov av_nil)) (blkOk_by (N := ["found", "due", "k", "key"]) (sc := defScope s_law_alike) (by first | decide +kernel | kernel_rfl)) (fun s0 H0 C0 cl0 fp0 => (gv_name 2)) (fun s0 H0 C0 cl0 fp0 => (tv_not (tv_val (ev_call (by exact cA) (by exact C.room) (takes_none) (by rfl) (av_cons ((ev_ix ix_seq pure_ix ((ev_var 0)).ov ((ev_var 2)).ov)).ov (av_cons ((ev_ix ix_seq pure_ix ((ev_var 1)).ov ((ev_var 2)).ov)).ov av_nil)) (hk := by first | decide | omega))))) (fun s0 H0 C0 cl0 fp0 => (ev_var 2)))).fz).ov (((ev_lstO av_nil)).fz).ov (by first | exact nomark _ | with_unfolding_all rfl)))))) bv_nil)
 (bv_cons (sv_if (tv_val (ev_isa "dict" (by rfl) T.b_isinstance (by rfl) T.b_dict (by decide +kernel) ((ev_var 1)).ov)) (bv_cons (sv_if (WV.tv (wv_or (tv_not (tv_val (ev_isa "dict" (by rfl) T.b_isinstance (by rfl) T.b_dict (by decide +kernel) ((ev_var 0)).ov))) (wv_or1 (tv_cmp (op_neG (by exact hu)) pure_ne (((ev_tyN (call_listD C.calm) new_listD (by rfl) T.b_list (by decide +kernel) (av_cons ((ev_var 0)).ov av_nil))).fz).ov (((ev_tyN (call_listD C.calm) new_listD (by rfl) T.b_list (by decide +kernel) (av_cons ((ev_var 1)).ov av_nil))).fz).ov (by first | exact nomark _ | with_unfolding_all rfl))))) (bv_one (sv_ret ev_bl)) bv_nil)
 (bv_one (sv_ret (ev_cmp (op_eqG (by exact hu)) pure_eq (((ev_lcI [("key", 3)] C.calm (iv_dk (ev_var 1)) (blkOk_by (N := ["found", "due", "k", "key"]) (sc := defScope s_law_alike) (by first | decide +kernel | kernel_rfl)) (fun s0 H0 C0 cl0 fp0 => (gv_name 3)) (fun s0 H0 C0 cl0 fp0 => (tv_not (tv_val (ev_call (by exact cA) (by exact C.room) (takes_none) (by rfl) (av_cons ((ev_dget (by exact hu1) (ev_var 0) (ev_var 3))).ov (av_cons ((ev_dget (by exact hu1) (ev_var 1) (ev_var 3))).ov av_nil)) (hk := by first | decide | omega))))) (fun s0 H0 C0 cl0 fp0 => (ev_var 3)))).fz).ov (((ev_lstO av_nil)).fz).ov (by first | exact nomark _ | with_unfolding_all rfl))))) bv_nil)
 (bv_cons (sv_if (WV.tv (wv_or (tv_cmp op_isN pure_isN ((ev_var 1)).ov (ev_non).ov (by first | exact nomark _ | with_unfolding_all rfl)) (wv_or1 (tv_val (ev_isa "str" (by rfl) T.b_isinstance (by rfl) T.b_str (by decide +kernel) ((ev_var 1)).ov))))) (bv_one (sv_ret (ev_and (ev_cmp (op_eqG (by exact hu)) pure_eq ((ev_var 0)).ov ((ev_var 1)).ov (by first | exact nomark _ | with_unfolding_all rfl)) ((ev_cmp (op_eqG (by exact hu)) pure_eq ((ev_isa "str" (by rfl) T.b_isinstance (by rfl) T.b_str (by decide +kernel) ((ev_var 0)).ov)).ov ((ev_isa "str" (by rfl) T.b_isinstance (by rfl) T.b_str (by decide +kernel) ((ev_var 1)).ov)).ov (by first | exact nomark _ | with_unfolding_all rfl))).bl))) bv_nil)
 (bv_one (sv_ret (ev_and (ev_isa "int" (by rfl) T.b_isinstance (by rfl) T.b_int (by decide +kernel) ((ev_var 0)).ov) (ev_and (ev_cmp (op_eqG (by exact hu)) pure_eq ((ev_isa "bool" (by rfl) T.b_isinstance (by rfl) T.b_bool (by decide +kernel) ((ev_var 0)).ov)).ov ((ev_isa "bool" (by rfl) T.b_isinstance (by rfl) T.b_bool (by decide +kernel) ((ev_var 1)).ov)).ov (by first | exact nomark _ | with_unfolding_all rfl)) ((ev_cmp (op_eqG (by exact hu)) pure_eq ((ev_var 0)).ov ((ev_var 1)).ov (by first | exact nomark _ | with_unfolding_all rfl))).bl)))))))
theorem c_law_alike (T : Top K mg) (TX : Tex w K mg base)  : ∀ n, CalP PR w K mg base (1 + n) "_law_alike" 2 .fr (F_law_alike n)
  | 0 => by obtain ⟨f, fd, F, hm, b⟩ := T.t_law_alike.ex; exact ⟨f, fd, _, fn_pure F sc_law_alike (mk := []) (by rfl) (by decide) (fun _ _ _ _ _ _ _ => bv_never), hm, F.kp, b⟩
  | n + 1 => by obtain ⟨f, fd, F, hm, b⟩ := T.t_law_alike.ex; exact ⟨f, fd, _, fn_pure F sc_law_alike (by rfl) (by decide) (b_law_alike T TX  (by omega) (c_law_alike T TX  n) f), hm, F.kp, b⟩
def d_law_name : M3 :=
 (sSeq (sSet 1 (m2 (.ex) (.ex) dIx (mLst (mCons (mC (.int 1)) (mCons (mC (.int 1)) (mCons (mC (.int 2)) (mCons (mC (.int 3)) (mCons (mC (.int 5)) (mCons (mC (.int 8)) mNil))))))) (mCallR 0 F_law_taken (mCons (mC (.int 6)) mNil))))
 (sRet (mMt "str" (.ex) [.ex] dJoin (mC (.str [])) (mCons (mLc none [2] (mRng1 (mCons (mVar 1) mNil)) (gfN 2) mYes (m2 (.ex) (.ex) dIx (mC (.str [97, 98, 99, 100, 101, 102, 103, 104, 105, 106, 107, 108, 109, 110, 111, 112, 113, 114, 115, 116, 117, 118, 119, 120, 121, 122])) (mCallR 0 F_law_taken (mCons (mC (.int 26)) mNil)))) mNil))))
def F_law_name : List D → List D → FRr := denR 3 d_law_name
theorem b_law_name (T : Top K mg) (TX : Tex w K mg base) (c_law_taken : CalR PR w K mg base 1 "_law_taken" 1 .fr F_law_taken) : ∀ f, BodyOk PR w K mg base ["row", "many", "k"] "_law_name" s_law_name f 1 [0] [.own .fr, .fr, .fr] .fr d_law_name := by
  intro f cdv A0 outer s H E C
  have hN : (["row", "many", "k"] : List Str).Nodup := sc_law_name.nd
  have hu := C.room.units; have hu2 := C.room.units1; have hu1 := Nat.lt_of_le_of_lt (Nat.add_le_add_left (by decide : 1 ≤ 64) _) C.room.units
  exact (bv_cons (sv_set 1 (ev_ix ix_seq pure_ix (((ev_lstO (av_cons (ev_int).ov (av_cons (ev_int).ov (av_cons (ev_int).ov (av_cons (ev_int).ov (av_cons (ev_int).ov (av_cons (ev_int).ov av_nil)))))))).fz).ov ((ev_callR 0 c_law_taken C.room C.tk (by rfl) (pe_var (i := 0) (by rfl) (by first | exact Or.inl rfl | exact Or.inr (Or.inl rfl) | exact Or.inr (Or.inr rfl))) (av_cons (ev_int).ov av_nil) (hk := by first | decide | omega))).ov))
 (bv_one (sv_ret (ev_mt PySem.F.plainAttrs_str PySem.F.slot_str_join PySem.F.type_str_join mt_join pure_join ((ev_str [])).ov (av_cons (((ev_lc [("k", 2)] C.calm (iv_rng1 (by rfl) T.b_range (av_cons ((ev_var 1)).ov av_nil)) (blkOk_by (N := ["row", "many", "k"]) (sc := defScope s_law_name) (by first | decide +kernel | kernel_rfl)) (fun s0 H0 C0 cl0 fp0 => (gv_name 2)) (fun s0 H0 C0 cl0 fp0 => (ev_ix ix_seq pure_ix ((ev_str [97, 98, 99, 100, 101, 102, 103, 104, 105, 106, 107, 108, 109, 110, 111, 112, 113, 114, 115, 116, 117, 118, 119, 120, 121, 122])).ov ((ev_callR 0 (by exact c_law_taken) (by exact C.room) (takes_none) (by rfl) (pe_var (i := 0) (by rfl) (by first | exact Or.inl rfl | exact Or.inr (Or.inl rfl) | exact Or.inr (Or.inr rfl))) (av_cons (ev_int).ov av_nil) (hk := by first | decide | omega))).ov)))).fz).ov av_nil)))))
theorem c_law_name (T : Top K mg) (TX : Tex w K mg base) (c_law_taken : CalR PR w K mg base 1 "_law_taken" 1 .fr F_law_taken) : CalR PR w K mg base 2 "_law_name" 0 .fr F_law_name := by
  obtain ⟨f, fd, F, hm, b⟩ := T.t_law_name.ex; exact ⟨f, fd, _, fn_row F sc_law_name (by rfl) (by rfl) (by decide) (b_law_name T TX c_law_taken f), hm, F.kp, b⟩
def d_law_names : M3 :=
 (sSeq (sSet 2 (mLst mNil))
 (sSeq (sFor (mRng1 (mCons (mVar 1) mNil)) (gfN 3) (sSeq (sSet 4 (mCallR 0 F_law_name mNil))
 (sSeq (sIf (mB (m2 (.ex) (.sl 2) dIn (mVar 4) (mVar 2))) (sSet 4 (m2 (.ex) (.ex) dIx (mLc none [5] (mIt (mC (.str [97, 98, 99, 100, 101, 102, 103, 104, 105, 106, 107, 108, 109, 110, 111, 112, 113, 114, 115, 116, 117, 118, 119, 120, 121, 122]))) (gfN 5) (mB (m2 (.ex) (.sl 2) dNotIn (mVar 5) (mVar 2))) (mVar 5)) (mC (.int 0)))) sSkip)
 (sMut 2 muAppend (mCons (mVar 4) mNil)))))
 (sRet (mVar 2))))
def F_law_names : List D → List D → FRr := denR 6 d_law_names
theorem b_law_names (T : Top K mg) (TX : Tex w K mg base) (c_law_name : CalR PR w K mg base 2 "_law_name" 0 .fr F_law_name) : ∀ f, BodyOk PR w K mg base ["row", "many", "found", "k", "name", "one"] "_law_names" s_law_names f 2 [0] [.own .fr, .fr, .own .fr, .fr, .fr, .fr] .fr d_law_names := by
  intro f cdv A0 outer s H E C
  have hN : (["row", "many", "found", "k", "name", "one"] : List Str).Nodup := sc_law_names.nd
  have hu := C.room.units; have hu2 := C.room.units1; have hu1 := Nat.lt_of_le_of_lt (Nat.add_le_add_left (by decide : 1 ≤ 64) _) C.room.units
  exact (bv_cons (sv_set 2 (ev_lstO av_nil))
 (bv_cons (sv_for C.po C.calm (iv_rng1 (by rfl) T.b_range (av_cons ((ev_var 1)).ov av_nil)) (gv_name 3) (bv_cons (sv_set 4 (ev_callR 0 c_law_name C.room C.tk (by rfl) (pe_var (i := 0) (by rfl) (by first | exact Or.inl rfl | exact Or.inr (Or.inl rfl) | exact Or.inr (Or.inr rfl))) av_nil (hk := by first | decide | omega)))
 (bv_cons (sv_if (tv_cmp (op_inG (by exact hu2)) pure_in ((ev_var 4)).ov (ov_sl 2) (by first | exact nomark _ | with_unfolding_all rfl)) (bv_one (sv_set 4 (ev_ix ix_seq pure_ix (((ev_lcI [("one", 5)] C.calm (iv_any (ev_str [97, 98, 99, 100, 101, 102, 103, 104, 105, 106, 107, 108, 109, 110, 111, 112, 113, 114, 115, 116, 117, 118, 119, 120, 121, 122])) (blkOk_by (N := ["row", "many", "found", "k", "name", "one"]) (sc := defScope s_law_names) (by first | decide +kernel | kernel_rfl)) (fun s0 H0 C0 cl0 fp0 => (gv_name 5)) (fun s0 H0 C0 cl0 fp0 => (tv_cmp (op_notinG (by exact hu2)) pure_notin ((ev_var 5)).ov (ov_sl 2) (by first | exact nomark _ | with_unfolding_all rfl))) (fun s0 H0 C0 cl0 fp0 => (ev_var 5)))).fz).ov (ev_int).ov))) bv_nil)
 (bv_one (sv_append 2 (pe_var (i := 2) (by rfl) (by first | exact Or.inl rfl | exact Or.inr (Or.inl rfl) | exact Or.inr (Or.inr rfl))) (av_cons ((ev_var 4)).ov av_nil))))))
 (bv_one (sv_ret_mv 2))))
theorem c_law_names (T : Top K mg) (TX : Tex w K mg base) (c_law_name : CalR PR w K mg base 2 "_law_name" 0 .fr F_law_name) : CalR PR w K mg base 3 "_law_names" 1 .fr F_law_names := by
  obtain ⟨f, fd, F, hm, b⟩ := T.t_law_names.ex; exact ⟨f, fd, _, fn_row F sc_law_names (by rfl) (by rfl) (by decide) (b_law_names T TX c_law_name f), hm, F.kp, b⟩
def d_law_character : M3 :=
 (sSeq (sPar 2 3 (mCons (m2 (.ex) (.ex) dPlus (mC (.int 1)) (mCallR 0 F_law_taken (mCons (mVar 1) mNil))) (mCons (mCallR 0 F_law_taken (mCons (mC (.int 4)) mNil)) mNil)))
 (sSeq (sIf (mB (m2 (.ex) (.ex) dEq (mVar 3) (mC (.int 0)))) (sSeq (sSet 4 (mCallR 0 F_law_taken (mCons (mVar 2) mNil)))
 (sRet (m2 (.ex) (.ex) dPlus (m2 (.ex) (.ex) dPlus (m2 (.ex) (.ex) dTimes (mC (.str [46])) (mVar 4)) (mC (.str [35]))) (m2 (.ex) (.ex) dTimes (mC (.str [46])) (m2 (.ex) (.ex) dMinus (m2 (.ex) (.ex) dMinus (mVar 2) (mVar 4)) (mC (.int 1))))))) sSkip)
 (sSeq (sSet 5 (mMt "str" (.ex) [.ex] dJoin (mC (.str [])) (mCons (mLc none [6] (mRng1 (mCons (mVar 2) mNil)) (gfN 6) mYes (m2 (.ex) (.ex) dIx (mC (.str [35, 46])) (mCallR 0 F_law_taken (mCons (mC (.int 2)) mNil)))) mNil)))
 (sSeq (sIf (mAndT (mB (m2 (.ex) (.ex) dEq (mVar 3) (mC (.int 1)))) (mB (m2 (.ex) (.ex) dLe (m2 (.ex) (.ex) dTimes (mVar 2) (mC (.int 2))) (mVar 1)))) (sRet (m2 (.ex) (.ex) dTimes (mVar 5) (mC (.int 2)))) sSkip)
 (sRet (mVar 5))))))
def F_law_character : List D → List D → FRr := denR 7 d_law_character
theorem b_law_character (T : Top K mg) (TX : Tex w K mg base) (c_law_taken : CalR PR w K mg base 1 "_law_taken" 1 .fr F_law_taken) : ∀ f, BodyOk PR w K mg base ["row", "most", "many", "kind", "at", "found", "k"] "_law_character" s_law_character f 1 [0] [.own .fr, .fr, .fr, .fr, .fr, .fr, .fr] .fr d_law_character := by
  intro f cdv A0 outer s H E C
  have hN : (["row", "most", "many", "kind", "at", "found", "k"] : List Str).Nodup := sc_law_character.nd
  have hu := C.room.units; have hu2 := C.room.units1; have hu1 := Nat.lt_of_le_of_lt (Nat.add_le_add_left (by decide : 1 ≤ 64) _) C.room.units
  exact (bv_cons (sv_par 2 3 C.calm (av_cons ((ev_plus (ev_int).ov ((ev_callR 0 c_law_taken C.room C.tk (by rfl) (pe_var (i := 0) (by rfl) (by first | exact Or.inl rfl | exact Or.inr (Or.inl rfl) | exact Or.inr (Or.inr rfl))) (av_cons ((ev_var 1)).ov av_nil) (hk := by first | decide | omega))).ov)).ov (av_cons ((ev_callR 0 c_law_taken C.room C.tk (by rfl) (pe_var (i := 0) (by rfl) (by first | exact Or.inl rfl | exact Or.inr (Or.inl rfl) | exact Or.inr (Or.inr rfl))) (av_cons (ev_int).ov av_nil) (hk := by first | decide | omega))).ov av_nil)))
 (bv_cons (sv_if (tv_cmp (op_eqG (by exact hu)) pure_eq ((ev_var 3)).ov (ev_int).ov (by first | exact nomark _ | with_unfolding_all rfl)) (bv_cons (sv_set 4 (ev_callR 0 c_law_taken C.room C.tk (by rfl) (pe_var (i := 0) (by rfl) (by first | exact Or.inl rfl | exact Or.inr (Or.inl rfl) | exact Or.inr (Or.inr rfl))) (av_cons ((ev_var 2)).ov av_nil) (hk := by first | decide | omega)))
 (bv_one (sv_ret (ev_plus ((ev_plus ((ev_times ((ev_str [46])).ov ((ev_var 4)).ov)).ov ((ev_str [35])).ov)).ov ((ev_times ((ev_str [46])).ov ((ev_minus ((ev_minus ((ev_var 2)).ov ((ev_var 4)).ov)).ov (ev_int).ov)).ov)).ov)))) bv_nil)
 (bv_cons (sv_set 5 (ev_mt PySem.F.plainAttrs_str PySem.F.slot_str_join PySem.F.type_str_join mt_join pure_join ((ev_str [])).ov (av_cons (((ev_lc [("k", 6)] C.calm (iv_rng1 (by rfl) T.b_range (av_cons ((ev_var 2)).ov av_nil)) (blkOk_by (N := ["row", "most", "many", "kind", "at", "found", "k"]) (sc := defScope s_law_character) (by first | decide +kernel | kernel_rfl)) (fun s0 H0 C0 cl0 fp0 => (gv_name 6)) (fun s0 H0 C0 cl0 fp0 => (ev_ix ix_seq pure_ix ((ev_str [35, 46])).ov ((ev_callR 0 (by exact c_law_taken) (by exact C.room) (takes_none) (by rfl) (pe_var (i := 0) (by rfl) (by first | exact Or.inl rfl | exact Or.inr (Or.inl rfl) | exact Or.inr (Or.inr rfl))) (av_cons (ev_int).ov av_nil) (hk := by first | decide | omega))).ov)))).fz).ov av_nil)))
 (bv_cons (sv_if (WV.tv (wv_and (tv_cmp (op_eqG (by exact hu)) pure_eq ((ev_var 3)).ov (ev_int).ov (by first | exact nomark _ | with_unfolding_all rfl)) (wv_and1 (tv_cmp op_leG pure_le ((ev_times ((ev_var 2)).ov (ev_int).ov)).ov ((ev_var 1)).ov (by first | exact nomark _ | with_unfolding_all rfl))))) (bv_one (sv_ret (ev_times ((ev_var 5)).ov (ev_int).ov))) bv_nil)
 (bv_one (sv_ret (ev_var 5)))))))
theorem c_law_character (T : Top K mg) (TX : Tex w K mg base) (c_law_taken : CalR PR w K mg base 1 "_law_taken" 1 .fr F_law_taken) : CalR PR w K mg base 2 "_law_character" 1 .fr F_law_character := by
  obtain ⟨f, fd, F, hm, b⟩ := T.t_law_character.ex; exact ⟨f, fd, _, fn_row F sc_law_character (by rfl) (by rfl) (by decide) (b_law_character T TX c_law_taken f), hm, F.kp, b⟩
def d_law_core : M3 :=
 (sSeq (sFor (mRng2 (mCons (mC (.int 1)) (mCons (m2 (.ex) (.ex) dPlus (mFn [.ex] (f1 dLen) (mCons (mVar 0) mNil)) (mC (.int 1))) mNil))) (gfN 1) (sIf (mAndT (mB (m2 (.ex) (.ex) dEq (m2 (.ex) (.ex) dMod (mFn [.ex] (f1 dLen) (mCons (mVar 0) mNil)) (mVar 1)) (mC (.int 0)))) (mB (m2 (.ex) (.ex) dEq (m2 (.ex) (.ex) dTimes (mCut (.ex) (mVar 0) mNoI (mSoI (mVar 1))) (mFn [.ex] (f1 dInt) (mCons (m2 (.ex) (.ex) dDiv (mFn [.ex] (f1 dLen) (mCons (mVar 0) mNil)) (mVar 1)) mNil))) (mVar 0)))) (sRet (mCut (.ex) (mVar 0) mNoI (mSoI (mVar 1)))) sSkip))
 (sRet (mVar 0)))
def F_law_core : List D → FR := denP 2 d_law_core
theorem b_law_core (T : Top K mg) (TX : Tex w K mg base)  : ∀ f, BodyOk PR w K mg base ["character", "many"] "_law_core" s_law_core f 0 [] [.fr, .fr] .fr d_law_core := by
  intro f cdv A0 outer s H E C
  have hN : (["character", "many"] : List Str).Nodup := sc_law_core.nd
  have hu := C.room.units; have hu2 := C.room.units1; have hu1 := Nat.lt_of_le_of_lt (Nat.add_le_add_left (by decide : 1 ≤ 64) _) C.room.units
  exact (bv_cons (sv_for C.po C.calm (iv_rng2 (by rfl) T.b_range (av_cons (ev_int).ov (av_cons ((ev_plus ((ev_fn call_len pure_len (by rfl) T.b_len (by decide +kernel) (av_cons ((ev_var 0)).ov av_nil))).ov (ev_int).ov)).ov av_nil))) (gv_name 1) (bv_one (sv_if (WV.tv (wv_and (tv_cmp (op_eqG (by exact hu)) pure_eq ((ev_mod ((ev_fn call_len pure_len (by rfl) T.b_len (by decide +kernel) (av_cons ((ev_var 0)).ov av_nil))).ov ((ev_var 1)).ov)).ov (ev_int).ov (by first | exact nomark _ | with_unfolding_all rfl)) (wv_and1 (tv_cmp (op_eqG (by exact hu)) pure_eq ((ev_times ((ev_cut ((ev_var 0)).ov oi_none (oi_some (ev_var 1)))).ov ((ev_ty call_int1 pure_int (by rfl) T.b_int (by decide +kernel) (av_cons ((ev_div ((ev_fn call_len pure_len (by rfl) T.b_len (by decide +kernel) (av_cons ((ev_var 0)).ov av_nil))).ov ((ev_var 1)).ov)).ov av_nil))).ov)).ov ((ev_var 0)).ov (by first | exact nomark _ | with_unfolding_all rfl))))) (bv_one (sv_ret (ev_cut ((ev_var 0)).ov oi_none (oi_some (ev_var 1))))) bv_nil)))
 (bv_one (sv_ret (ev_var 0))))
theorem c_law_core (T : Top K mg) (TX : Tex w K mg base)  : CalP PR w K mg base 1 "_law_core" 1 .fr F_law_core := by
  obtain ⟨f, fd, F, hm, b⟩ := T.t_law_core.ex; exact ⟨f, fd, _, fn_pure F sc_law_core (by rfl) (by decide) (b_law_core T TX  f), hm, F.kp, b⟩
def d_law_turns : M3 :=
 (sSeq (sSet 1 (mCall F_law_core (mCons (mVar 0) mNil)))
 (sRet (mLc none [2] (mRng1 (mCons (mFn [.ex] (f1 dLen) (mCons (mVar 1) mNil)) mNil)) (gfN 2) mYes (m2 (.ex) (.ex) dPlus (mCut (.ex) (mVar 1) (mSoI (mVar 2)) mNoI) (mCut (.ex) (mVar 1) mNoI (mSoI (mVar 2)))))))
def F_law_turns : List D → FR := denP 3 d_law_turns
theorem b_law_turns (T : Top K mg) (TX : Tex w K mg base) (c_law_core : CalP PR w K mg base 1 "_law_core" 1 .fr F_law_core) : ∀ f, BodyOk PR w K mg base ["character", "own", "k"] "_law_turns" s_law_turns f 1 [] [.fr, .fr, .fr] .fr d_law_turns := by
  intro f cdv A0 outer s H E C
  have hN : (["character", "own", "k"] : List Str).Nodup := sc_law_turns.nd
  have hu := C.room.units; have hu2 := C.room.units1; have hu1 := Nat.lt_of_le_of_lt (Nat.add_le_add_left (by decide : 1 ≤ 64) _) C.room.units
  exact (bv_cons (sv_set 1 (ev_call c_law_core C.room C.tk (by rfl) (av_cons ((ev_var 0)).ov av_nil) (hk := by first | decide | omega)))
 (bv_one (sv_ret ((ev_lc [("k", 2)] C.calm (iv_rng1 (by rfl) T.b_range (av_cons ((ev_fn call_len pure_len (by rfl) T.b_len (by decide +kernel) (av_cons ((ev_var 1)).ov av_nil))).ov av_nil)) (blkOk_by (N := ["character", "own", "k"]) (sc := defScope s_law_turns) (by first | decide +kernel | kernel_rfl)) (fun s0 H0 C0 cl0 fp0 => (gv_name 2)) (fun s0 H0 C0 cl0 fp0 => (ev_plus ((ev_cut ((ev_var 1)).ov (oi_some (ev_var 2)) oi_none)).ov ((ev_cut ((ev_var 1)).ov oi_none (oi_some (ev_var 2)))).ov)))).fz)))
theorem c_law_turns (T : Top K mg) (TX : Tex w K mg base) (c_law_core : CalP PR w K mg base 1 "_law_core" 1 .fr F_law_core) : CalP PR w K mg base 2 "_law_turns" 1 .fr F_law_turns := by
  obtain ⟨f, fd, F, hm, b⟩ := T.t_law_turns.ex; exact ⟨f, fd, _, fn_pure F sc_law_turns (by rfl) (by decide) (b_law_turns T TX c_law_core f), hm, F.kp, b⟩
def d_law_coast : M3 :=
 (sSeq (sSet 3 (mLst mNil))
 (sSeq (sFor (mIt (mCallR 0 F_law_names (mCons (m2 (.ex) (.ex) dPlus (mC (.int 1)) (mCallR 0 F_law_taken (mCons (mVar 1) mNil))) mNil))) (gfN 4) (sSeq (sSet 5 (mCallR 0 F_law_character (mCons (mVar 2) mNil)))
 (sSeq (sIf (mAndT (mB (m2 (.sl 3) (.ex) dNe (mVar 3) (mLst mNil))) (mB (m2 (.ex) (.ex) dEq (mCallR 0 F_law_taken (mCons (mC (.int 8)) mNil)) (mC (.int 0))))) (sSet 5 (mCallR 0 F_law_pick (mCons (mCall F_law_turns (mCons (m2 (.ex) (.ex) dIx (mCallQ 0 3 F_law_pickQ mNil) (mC (.int 1))) mNil)) mNil))) sSkip)
 (sMut 3 muAppend (mCons (mTup (mCons (mVar 4) (mCons (mVar 5) mNil))) mNil)))))
 (sRet (mVar 3))))
def F_law_coast : List D → List D → FRr := denR 6 d_law_coast
theorem b_law_coast (T : Top K mg) (TX : Tex w K mg base) (c_law_names : CalR PR w K mg base 3 "_law_names" 1 .fr F_law_names) (c_law_taken : CalR PR w K mg base 1 "_law_taken" 1 .fr F_law_taken) (c_law_character : CalR PR w K mg base 2 "_law_character" 1 .fr F_law_character) (c_law_pick : CalR PR w K mg base 2 "_law_pick" 1 .fr F_law_pick) (c_law_turns : CalP PR w K mg base 2 "_law_turns" 1 .fr F_law_turns) (c_law_pickQ : CalQ PR w K mg base 2 "_law_pick" 0 .fr F_law_pickQ) : ∀ f, BodyOk PR w K mg base ["row", "lights", "most", "found", "name", "character"] "_law_coast" s_law_coast f 3 [0] [.own .fr, .fr, .fr, .own .fr, .fr, .fr] .fr d_law_coast := by
  intro f cdv A0 outer s H E C
  have hN : (["row", "lights", "most", "found", "name", "character"] : List Str).Nodup := sc_law_coast.nd
  have hu := C.room.units; have hu2 := C.room.units1; have hu1 := Nat.lt_of_le_of_lt (Nat.add_le_add_left (by decide : 1 ≤ 64) _) C.room.units
  exact (bv_cons (sv_set 3 (ev_lstO av_nil))
 (bv_cons (sv_for C.po C.calm (iv_any (ev_callR 0 c_law_names C.room C.tk (by rfl) (pe_var (i := 0) (by rfl) (by first | exact Or.inl rfl | exact Or.inr (Or.inl rfl) | exact Or.inr (Or.inr rfl))) (av_cons ((ev_plus (ev_int).ov ((ev_callR 0 c_law_taken C.room C.tk (by rfl) (pe_var (i := 0) (by rfl) (by first | exact Or.inl rfl | exact Or.inr (Or.inl rfl) | exact Or.inr (Or.inr rfl))) (av_cons ((ev_var 1)).ov av_nil) (hk := by first | decide | omega))).ov)).ov av_nil) (hk := by first | decide | omega))) (gv_name 4) (bv_cons (sv_set 5 (ev_callR 0 c_law_character C.room C.tk (by rfl) (pe_var (i := 0) (by rfl) (by first | exact Or.inl rfl | exact Or.inr (Or.inl rfl) | exact Or.inr (Or.inr rfl))) (av_cons ((ev_var 2)).ov av_nil) (hk := by first | decide | omega)))
 (bv_cons (sv_if (WV.tv (wv_and (tv_cmp (op_neG (by exact hu)) pure_ne (ov_sl 3) (((ev_lstO av_nil)).fz).ov (by first | exact nomark _ | with_unfolding_all rfl)) (wv_and1 (tv_cmp (op_eqG (by exact hu)) pure_eq ((ev_callR 0 c_law_taken C.room C.tk (by rfl) (pe_var (i := 0) (by rfl) (by first | exact Or.inl rfl | exact Or.inr (Or.inl rfl) | exact Or.inr (Or.inr rfl))) (av_cons (ev_int).ov av_nil) (hk := by first | decide | omega))).ov (ev_int).ov (by first | exact nomark _ | with_unfolding_all rfl))))) (bv_one (sv_set 5 (ev_callR 0 c_law_pick C.room C.tk (by rfl) (pe_var (i := 0) (by rfl) (by first | exact Or.inl rfl | exact Or.inr (Or.inl rfl) | exact Or.inr (Or.inr rfl))) (av_cons ((ev_call c_law_turns C.room C.tk (by rfl) (av_cons ((ev_ix ix_seq pure_ix ((ev_callQ 0 3 c_law_pickQ C.room C.tk (by rfl) (pe_var (i := 0) (by rfl) (by first | exact Or.inl rfl | exact Or.inr (Or.inl rfl) | exact Or.inr (Or.inr rfl))) (pe_var (i := 3) (by rfl) (by first | exact Or.inl rfl | exact Or.inr (Or.inl rfl) | exact Or.inr (Or.inr rfl))) av_nil (hk := by first | decide | omega))).ov (ev_int).ov)).ov av_nil) (hk := by first | decide | omega))).ov av_nil) (hk := by first | decide | omega)))) bv_nil)
 (bv_one (sv_append 3 (pe_var (i := 3) (by rfl) (by first | exact Or.inl rfl | exact Or.inr (Or.inl rfl) | exact Or.inr (Or.inr rfl))) (av_cons ((ev_tup (av_cons ((ev_var 4)).ov (av_cons ((ev_var 5)).ov av_nil)))).ov av_nil))))))
 (bv_one (sv_ret_mv 3))))
theorem c_law_coast (T : Top K mg) (TX : Tex w K mg base) (c_law_names : CalR PR w K mg base 3 "_law_names" 1 .fr F_law_names) (c_law_taken : CalR PR w K mg base 1 "_law_taken" 1 .fr F_law_taken) (c_law_character : CalR PR w K mg base 2 "_law_character" 1 .fr F_law_character) (c_law_pick : CalR PR w K mg base 2 "_law_pick" 1 .fr F_law_pick) (c_law_turns : CalP PR w K mg base 2 "_law_turns" 1 .fr F_law_turns) (c_law_pickQ : CalQ PR w K mg base 2 "_law_pick" 0 .fr F_law_pickQ) : CalR PR w K mg base 4 "_law_coast" 2 .fr F_law_coast := by
  obtain ⟨f, fd, F, hm, b⟩ := T.t_law_coast.ex; exact ⟨f, fd, _, fn_row F sc_law_coast (by rfl) (by rfl) (by decide) (b_law_coast T TX c_law_names c_law_taken c_law_character c_law_pick c_law_turns c_law_pickQ f), hm, F.kp, b⟩
def d_law_text : M3 :=
 (sSeq (sPar 1 2 (mCons (mLst mNil) (mCons (mC (.int 0)) mNil)))
 (sSeq (sFor (mRng2 (mCons (mC (.int 1)) (mCons (m2 (.ex) (.ex) dPlus (mFn [.ex] (f1 dLen) (mCons (mVar 0) mNil)) (mC (.int 1))) mNil))) (gfN 3) (sIf (mOrT (mB (m2 (.ex) (.ex) dEq (mVar 3) (mFn [.ex] (f1 dLen) (mCons (mVar 0) mNil)))) (mB (m2 (.ex) (.ex) dNe (m2 (.ex) (.ex) dIx (mVar 0) (mVar 3)) (m2 (.ex) (.ex) dIx (mVar 0) (mVar 2))))) (sSeq (sMut 1 muAppend (mCons (m2 (.ex) (.ex) dPlus (mIf (mB (m2 (.ex) (.ex) dEq (m2 (.ex) (.ex) dIx (mVar 0) (mVar 2)) (mC (.str [35])))) (mC (.str [76])) (mC (.str [68]))) (mFn [.ex] (f1 dStrI) (mCons (m2 (.ex) (.ex) dMinus (mVar 3) (mVar 2)) mNil))) mNil))
 (sSet 2 (mVar 3))) sSkip))
 (sRet (mMt "str" (.ex) [.sl 1] dJoin (mC (.str [32])) (mCons (mVar 1) mNil)))))
def F_law_text : List D → FR := denP 4 d_law_text
theorem b_law_text (T : Top K mg) (TX : Tex w K mg base)  : ∀ f, BodyOk PR w K mg base ["character", "words", "begin", "k"] "_law_text" s_law_text f 0 [] [.fr, .own .fr, .fr, .fr] .fr d_law_text := by
  intro f cdv A0 outer s H E C
  have hN : (["character", "words", "begin", "k"] : List Str).Nodup := sc_law_text.nd
  have hu := C.room.units; have hu2 := C.room.units1; have hu1 := Nat.lt_of_le_of_lt (Nat.add_le_add_left (by decide : 1 ≤ 64) _) C.room.units
  exact (bv_cons (sv_parC 1 2 C.calm (ev_lstO av_nil))
 (bv_cons (sv_for C.po C.calm (iv_rng2 (by rfl) T.b_range (av_cons (ev_int).ov (av_cons ((ev_plus ((ev_fn call_len pure_len (by rfl) T.b_len (by decide +kernel) (av_cons ((ev_var 0)).ov av_nil))).ov (ev_int).ov)).ov av_nil))) (gv_name 3) (bv_one (sv_if (WV.tv (wv_or (tv_cmp (op_eqG (by exact hu)) pure_eq ((ev_var 3)).ov ((ev_fn call_len pure_len (by rfl) T.b_len (by decide +kernel) (av_cons ((ev_var 0)).ov av_nil))).ov (by first | exact nomark _ | with_unfolding_all rfl)) (wv_or1 (tv_cmp (op_neG (by exact hu)) pure_ne ((ev_ix ix_seq pure_ix ((ev_var 0)).ov ((ev_var 3)).ov)).ov ((ev_ix ix_seq pure_ix ((ev_var 0)).ov ((ev_var 2)).ov)).ov (by first | exact nomark _ | with_unfolding_all rfl))))) (bv_cons (sv_append 1 (pe_var (i := 1) (by rfl) (by first | exact Or.inl rfl | exact Or.inr (Or.inl rfl) | exact Or.inr (Or.inr rfl))) (av_cons ((ev_plus ((ev_if (tv_cmp (op_eqG (by exact hu)) pure_eq ((ev_ix ix_seq pure_ix ((ev_var 0)).ov ((ev_var 2)).ov)).ov ((ev_str [35])).ov (by first | exact nomark _ | with_unfolding_all rfl)) (ev_str [76]) (ev_str [68]))).ov ((ev_ty call_str_int pure_strI (by rfl) T.b_str (by decide +kernel) (av_cons ((ev_minus ((ev_var 3)).ov ((ev_var 2)).ov)).ov av_nil))).ov)).ov av_nil))
 (bv_one (sv_set 2 (ev_var 3)))) bv_nil)))
 (bv_one (sv_ret (ev_mt PySem.F.plainAttrs_str PySem.F.slot_str_join PySem.F.type_str_join mt_join pure_join ((ev_str [32])).ov (av_cons (ov_sl 1) av_nil))))))
theorem c_law_text (T : Top K mg) (TX : Tex w K mg base)  : CalP PR w K mg base 1 "_law_text" 1 .fr F_law_text := by
  obtain ⟨f, fd, F, hm, b⟩ := T.t_law_text.ex; exact ⟨f, fd, _, fn_pure F sc_law_text (by rfl) (by decide) (b_law_text T TX  f), hm, F.kp, b⟩
def d_law_told : M3 :=
 (sTry2 1 ["BadLights", "BadRow"] "BadRow" (sRet (mLst (mCons (mFld "Coast" "lights" (mCall F_read_coast (mCons (mVar 0) mNil))) mNil))))
def F_law_told : List D → FR := denP 2 d_law_told
theorem b_law_told (T : Top K mg) (TX : Tex w K mg base) (c_read_coast : CalP PR w K mg base 5 "read_coast" 1 .fr F_read_coast) : ∀ f, BodyOk PR w K mg base ["text", "e"] "_law_told" s_law_told f 5 [] [.fr, .fr] .fr d_law_told := by
  intro f cdv A0 outer s H E C
  have hN : (["text", "e"] : List Str).Nodup := sc_law_told.nd
  have hu := C.room.units; have hu2 := C.room.units1; have hu1 := Nat.lt_of_le_of_lt (Nat.add_le_add_left (by decide : 1 ≤ 64) _) C.room.units
  exact (bv_one (sv_try2 1 ["BadLights", "BadRow"] T.ext0 C.tk (fun W pn xe tk0 po0 => (bv_one (sv_ret ((ev_lstO (av_cons ((ev_fldT (by exact T.f_Coast_lights) (ev_call (by exact c_read_coast) (by exact C.room) tk0 (by rfl) (av_cons ((ev_var 0)).ov av_nil) (hk := by first | decide | omega)))).ov av_nil))).fz))) (clss_of T.ext0 ⟨⟨by rfl, by decide⟩, trivial⟩) (by rfl) (by rfl) T.b_isinstance (by rfl) T.b_ValueError))
theorem c_law_told (T : Top K mg) (TX : Tex w K mg base) (c_read_coast : CalP PR w K mg base 5 "read_coast" 1 .fr F_read_coast) : CalP PR w K mg base 6 "_law_told" 1 .fr F_law_told := by
  obtain ⟨f, fd, F, hm, b⟩ := T.t_law_told.ex; exact ⟨f, fd, _, fn_pure F sc_law_told (by rfl) (by decide) (b_law_told T TX c_read_coast f), hm, F.kp, b⟩
def d_law : M3 :=
 (sSeq (sSet 1 (mLst (mCons (mVar 0) (mCons (mC (.int 0)) (mCons (mC (.int 3109)) (mCons (mC (.int 0)) mNil))))))
 (sSeq (sFor (mRng1 (mCons (mC (.int 3)) mNil)) (gfN 2) (sSeq (sSet 3 (mCallR 1 F_law_coast (mCons (mIf (mB (m2 (.ex) (.ex) dEq (mCallR 1 F_law_taken (mCons (mC (.int 6)) mNil)) (mC (.int 0)))) (mC (.int 12)) (mC (.int 5))) (mCons (mC (.int 12)) mNil))))
 (sSeq (sSet 4 (mLc none [10, 11] (mIt (mVar 3)) (gfT (gfCons (gfN 10) (gfCons (gfN 11) gfNil))) mYes (m2 (.ex) (.ex) dPlus (m2 (.ex) (.ex) dPlus (mVar 10) (mC (.str [32]))) (mCall F_law_text (mCons (mVar 11) mNil)))))
 (sSeq (sSet 5 (mMt "str" (.ex) [.ex] dJoin (mC (.str [10])) (mCons (mVar 4) mNil)))
 (sSeq (sIf (mOrT (mNot (mB (mCall (F_law_alike 8) (mCons (mCall F_coast_text (mCons (mCall F_Coast_init (mCons (mVar 3) mNil)) mNil)) (mCons (mVar 5) mNil))))) (mNot (mB (mCall (F_law_alike 8) (mCons (mCall F_law_told (mCons (mVar 5) mNil)) (mCons (mLst (mCons (mFn [.ex] (f1 dTuple) (mCons (mVar 3) mNil)) mNil)) mNil)))))) (sRet (mC (.bl false))) sSkip)
 (sSeq (sSet 6 (mCallR 1 F_law_taken (mCons (mFn [.ex] (f1 dLen) (mCons (mVar 4) mNil)) mNil)))
 (sSeq (sSet 7 (mCallR 1 F_law_pick (mCons (mLst (mCons (mC (.str [])) (mCons (mC (.str [97])) (mCons (mC (.str [65, 32, 76, 49])) (mCons (mC (.str [97, 32, 76, 48])) (mCons (mC (.str [97, 32, 32, 76, 49])) (mCons (mC (.str [32, 76, 49])) (mCons (mC (.str [97, 32, 76, 49, 32, 76, 49])) (mCons (mC (.str [97, 32, 76, 49, 51])) (mCons (mC (.str [97, 98, 99, 100, 101, 102, 103, 104, 105, 32, 76, 49])) (mCons (m2 (.ex) (.ex) dPlus (m2 (.ex) (.ex) dIx (mVar 4) (mVar 6)) (mC (.str [32]))) (mCons (m2 (.ex) (.ex) dIx (m2 (.ex) (.ex) dIx (mVar 3) (mVar 6)) (mC (.int 0))) mNil)))))))))))) mNil)))
 (sSeq (sIf (mNot (mB (mCall (F_law_alike 8) (mCons (mCall F_law_told (mCons (mMt "str" (.ex) [.ex] dJoin (mC (.str [10])) (mCons (m2 (.ex) (.ex) dPlus (m2 (.ex) (.ex) dPlus (mCut (.ex) (mVar 4) mNoI (mSoI (mVar 6))) (mLst (mCons (mVar 7) mNil))) (mCut (.ex) (mVar 4) (mSoI (m2 (.ex) (.ex) dPlus (mVar 6) (mC (.int 1)))) mNoI)) mNil)) mNil)) (mCons (mTup (mCons (mC (.bl true)) (mCons (m2 (.ex) (.ex) dPlus (mVar 6) (mC (.int 1))) mNil))) mNil))))) (sRet (mC (.bl false))) sSkip)
 (sSeq (sIf (mNot (mB (mCall (F_law_alike 8) (mCons (mCall F_law_told (mCons (m2 (.ex) (.ex) dPlus (m2 (.ex) (.ex) dPlus (mVar 5) (mC (.str [10]))) (m2 (.ex) (.ex) dIx (mVar 4) (mVar 6))) mNil)) (mCons (mTup (mCons (mC (.bl true)) (mCons (m2 (.ex) (.ex) dPlus (mFn [.ex] (f1 dLen) (mCons (mVar 4) mNil)) (mC (.int 1))) mNil))) mNil))))) (sRet (mC (.bl false))) sSkip)
 (sSeq (sSet 8 (mCut (.ex) (mLc none [12] (mIt (mC (.str [97, 98, 99, 100, 101, 102, 103, 104, 105, 106, 107, 108, 109, 110, 111, 112, 113, 114, 115, 116, 117, 118, 119, 120, 121, 122]))) (gfN 12) (mB (m2 (.ex) (.ex) dNotIn (mVar 12) (mLc none [13] (mIt (mVar 3)) (gfN 13) mYes (m2 (.ex) (.ex) dIx (mVar 13) (mC (.int 0)))))) (mVar 12)) mNoI (mSoI (m2 (.ex) (.ex) dMinus (mC (.int 13)) (mFn [.ex] (f1 dLen) (mCons (mVar 3) mNil))))))
 (sSeq (sIf (mNot (mB (mCall (F_law_alike 8) (mCons (mCall F_law_told (mCons (mMt "str" (.ex) [.ex] dJoin (mC (.str [10])) (mCons (m2 (.ex) (.ex) dPlus (mVar 4) (mLc none [10] (mIt (mVar 8)) (gfN 10) mYes (m2 (.ex) (.ex) dPlus (mVar 10) (mC (.str [32, 68, 50]))))) mNil)) mNil)) (mCons (mTup (mCons (mC (.bl true)) (mCons (mC (.int 13)) mNil))) mNil))))) (sRet (mC (.bl false))) sSkip)
 (sSeq (sSet 9 (mCallR 1 F_law_pick (mCons (mLst (mCons (mC .non) (mCons (mC (.int 5)) (mCons (mLst (mCons (mVar 5) mNil)) (mCons (mTup (mCons (mC (.str [97])) mNil)) (mCons (mC (.bl true)) mNil)))))) mNil)))
 (sIf (mOrT (mNot (mB (mCall (F_law_alike 8) (mCons (mCall F_law_told (mCons (mVar 9) mNil)) (mCons (mTup (mCons (mC (.bl true)) (mCons (mC (.int 0)) mNil))) mNil))))) (mNot (mB (mCall (F_law_alike 8) (mCons (mCall F_law_told (mCons (mC (.str [])) mNil)) (mCons (mTup (mCons (mC (.bl true)) (mCons (mC (.int 1)) mNil))) mNil)))))) (sRet (mC (.bl false))) sSkip)))))))))))))
 (sRet (mC (.bl true)))))
def F_law : List D → FR := denP 14 d_law
theorem b_law (T : Top K mg) (TX : Tex w K mg base) (c_law_coast : CalR PR w K mg base 4 "_law_coast" 2 .fr F_law_coast) (c_law_taken : CalR PR w K mg base 1 "_law_taken" 1 .fr F_law_taken) (c_law_text : CalP PR w K mg base 1 "_law_text" 1 .fr F_law_text) (c_law_alike : CalP PR w K mg base 9 "_law_alike" 2 .fr (F_law_alike 8)) (c_coast_text : CalP PR w K mg base 2 "coast_text" 1 .fr F_coast_text) (c_Coast_init : CalI PR w K mg base 3 "Coast" 1 F_Coast_init) (c_law_told : CalP PR w K mg base 6 "_law_told" 1 .fr F_law_told) (c_law_pick : CalR PR w K mg base 2 "_law_pick" 1 .fr F_law_pick) : ∀ f, BodyOk PR w K mg base ["script", "row", "turn", "lights", "rows", "text", "at", "wrong", "names", "odd", "name", "character", "one", "light"] "law" s_law f 9 [] [.fr, .own .fr, .fr, .fr, .fr, .fr, .fr, .fr, .fr, .fr, .fr, .fr, .fr, .fr] .fr d_law := by
  intro f cdv A0 outer s H E C
  have hN : (["script", "row", "turn", "lights", "rows", "text", "at", "wrong", "names", "odd", "name", "character", "one", "light"] : List Str).Nodup := sc_law.nd
  have hu := C.room.units; have hu2 := C.room.units1; have hu1 := Nat.lt_of_le_of_lt (Nat.add_le_add_left (by decide : 1 ≤ 64) _) C.room.units
  exact (bv_cons (sv_set 1 (ev_lstO (av_cons ((ev_var 0)).ov (av_cons (ev_int).ov (av_cons (ev_int).ov (av_cons (ev_int).ov av_nil))))))
 (bv_cons (sv_for C.po C.calm (iv_rng1 (by rfl) T.b_range (av_cons (ev_int).ov av_nil)) (gv_name 2) (bv_cons (sv_set 3 (ev_callR 1 c_law_coast C.room C.tk (by rfl) (pe_var (i := 1) (by rfl) (by first | exact Or.inl rfl | exact Or.inr (Or.inl rfl) | exact Or.inr (Or.inr rfl))) (av_cons ((ev_if (tv_cmp (op_eqG (by exact hu)) pure_eq ((ev_callR 1 c_law_taken C.room C.tk (by rfl) (pe_var (i := 1) (by rfl) (by first | exact Or.inl rfl | exact Or.inr (Or.inl rfl) | exact Or.inr (Or.inr rfl))) (av_cons (ev_int).ov av_nil) (hk := by first | decide | omega))).ov (ev_int).ov (by first | exact nomark _ | with_unfolding_all rfl)) ev_int ev_int)).ov (av_cons (ev_int).ov av_nil)) (hk := by first | decide | omega)))
 (bv_cons (sv_lcT 4 [("name", 10), ("character", 11)] C.calm (iv_any (ev_var 3)) (blkOk_by (N := ["script", "row", "turn", "lights", "rows", "text", "at", "wrong", "names", "odd", "name", "character", "one", "light"]) (sc := defScope s_law) (by first | decide +kernel | kernel_rfl)) (fun s0 H0 C0 cl0 fp0 => (gt_tup 2 (by exact C.calm) (gs_cons (gv_name 10) (gs_cons (gv_name 11) gs_nil)) (gf_cons (gf_cons gf_nil)))) (fun s0 H0 C0 cl0 fp0 => (ev_plus ((ev_plus ((ev_var 10)).ov ((ev_str [32])).ov)).ov ((ev_call (by exact c_law_text) (by exact C.room) (takes_none) (by rfl) (av_cons ((ev_var 11)).ov av_nil) (hk := by first | decide | omega))).ov)))
 (bv_cons (sv_set 5 (ev_mt PySem.F.plainAttrs_str PySem.F.slot_str_join PySem.F.type_str_join mt_join pure_join ((ev_str [10])).ov (av_cons ((ev_var 4)).ov av_nil)))
 (bv_cons (sv_if (WV.tv (wv_or (tv_not (tv_val (ev_call c_law_alike C.room C.tk (by rfl) (av_cons ((ev_call c_coast_text C.room C.tk (by rfl) (av_cons ((ev_make c_Coast_init C.room C.tk (by rfl) (av_cons ((ev_var 3)).ov av_nil) (hk := by first | decide | omega))).ov av_nil) (hk := by first | decide | omega))).ov (av_cons ((ev_var 5)).ov av_nil)) (hk := by first | decide | omega)))) (wv_or1 (tv_not (tv_val (ev_call c_law_alike C.room C.tk (by rfl) (av_cons ((ev_call c_law_told C.room C.tk (by rfl) (av_cons ((ev_var 5)).ov av_nil) (hk := by first | decide | omega))).ov (av_cons (((ev_lstO (av_cons ((ev_ty call_tuple_of pure_tuple (by rfl) T.b_tuple (by decide +kernel) (av_cons ((ev_var 3)).ov av_nil))).ov av_nil))).fz).ov av_nil)) (hk := by first | decide | omega))))))) (bv_one (sv_ret ev_bl)) bv_nil)
 (bv_cons (sv_set 6 (ev_callR 1 c_law_taken C.room C.tk (by rfl) (pe_var (i := 1) (by rfl) (by first | exact Or.inl rfl | exact Or.inr (Or.inl rfl) | exact Or.inr (Or.inr rfl))) (av_cons ((ev_fn call_len pure_len (by rfl) T.b_len (by decide +kernel) (av_cons ((ev_var 4)).ov av_nil))).ov av_nil) (hk := by first | decide | omega)))
 (bv_cons (sv_set 7 (ev_callR 1 c_law_pick C.room C.tk (by rfl) (pe_var (i := 1) (by rfl) (by first | exact Or.inl rfl | exact Or.inr (Or.inl rfl) | exact Or.inr (Or.inr rfl))) (av_cons (((ev_lstO (av_cons ((ev_str [])).ov (av_cons ((ev_str [97])).ov (av_cons ((ev_str [65, 32, 76, 49])).ov (av_cons ((ev_str [97, 32, 76, 48])).ov (av_cons ((ev_str [97, 32, 32, 76, 49])).ov (av_cons ((ev_str [32, 76, 49])).ov (av_cons ((ev_str [97, 32, 76, 49, 32, 76, 49])).ov (av_cons ((ev_str [97, 32, 76, 49, 51])).ov (av_cons ((ev_str [97, 98, 99, 100, 101, 102, 103, 104, 105, 32, 76, 49])).ov (av_cons ((ev_plus ((ev_ix ix_seq pure_ix ((ev_var 4)).ov ((ev_var 6)).ov)).ov ((ev_str [32])).ov)).ov (av_cons ((ev_ix ix_seq pure_ix ((ev_ix ix_seq pure_ix ((ev_var 3)).ov ((ev_var 6)).ov)).ov (ev_int).ov)).ov av_nil))))))))))))).fz).ov av_nil) (hk := by first | decide | omega)))
 (bv_cons (sv_if (tv_not (tv_val (ev_call c_law_alike C.room C.tk (by rfl) (av_cons ((ev_call c_law_told C.room C.tk (by rfl) (av_cons ((ev_mt PySem.F.plainAttrs_str PySem.F.slot_str_join PySem.F.type_str_join mt_join pure_join ((ev_str [10])).ov (av_cons ((ev_plus ((ev_plus ((ev_cut ((ev_var 4)).ov oi_none (oi_some (ev_var 6)))).ov (((ev_lstO (av_cons ((ev_var 7)).ov av_nil))).fz).ov)).ov ((ev_cut ((ev_var 4)).ov (oi_some (ev_plus ((ev_var 6)).ov (ev_int).ov)) oi_none)).ov)).ov av_nil))).ov av_nil) (hk := by first | decide | omega))).ov (av_cons ((ev_tup (av_cons (ev_bl).ov (av_cons ((ev_plus ((ev_var 6)).ov (ev_int).ov)).ov av_nil)))).ov av_nil)) (hk := by first | decide | omega)))) (bv_one (sv_ret ev_bl)) bv_nil)
 (bv_cons (sv_if (tv_not (tv_val (ev_call c_law_alike C.room C.tk (by rfl) (av_cons ((ev_call c_law_told C.room C.tk (by rfl) (av_cons ((ev_plus ((ev_plus ((ev_var 5)).ov ((ev_str [10])).ov)).ov ((ev_ix ix_seq pure_ix ((ev_var 4)).ov ((ev_var 6)).ov)).ov)).ov av_nil) (hk := by first | decide | omega))).ov (av_cons ((ev_tup (av_cons (ev_bl).ov (av_cons ((ev_plus ((ev_fn call_len pure_len (by rfl) T.b_len (by decide +kernel) (av_cons ((ev_var 4)).ov av_nil))).ov (ev_int).ov)).ov av_nil)))).ov av_nil)) (hk := by first | decide | omega)))) (bv_one (sv_ret ev_bl)) bv_nil)
 (bv_cons (sv_set 8 (ev_cut (((ev_lcI [("one", 12)] C.calm (iv_any (ev_str [97, 98, 99, 100, 101, 102, 103, 104, 105, 106, 107, 108, 109, 110, 111, 112, 113, 114, 115, 116, 117, 118, 119, 120, 121, 122])) (blkOk_by (N := ["script", "row", "turn", "lights", "rows", "text", "at", "wrong", "names", "odd", "name", "character", "one", "light"]) (sc := defScope s_law) (by first | decide +kernel | kernel_rfl)) (fun s0 H0 C0 cl0 fp0 => (gv_name 12)) (fun s0 H0 C0 cl0 fp0 => (tv_cmp (op_notinG (by exact hu2)) pure_notin ((ev_var 12)).ov (((ev_lc [("light", 13)] (by exact C.calm) (iv_any (ev_var 3)) (blkOk_by (N := ["script", "row", "turn", "lights", "rows", "text", "at", "wrong", "names", "odd", "name", "character", "one", "light"]) (sc := _) (by first | decide +kernel | kernel_rfl)) (fun s1 H1 C1 cl1 fp1 => (gv_name 13)) (fun s1 H1 C1 cl1 fp1 => (ev_ix ix_seq pure_ix ((ev_var 13)).ov (ev_int).ov)))).fz).ov (by first | exact nomark _ | with_unfolding_all rfl))) (fun s0 H0 C0 cl0 fp0 => (ev_var 12)))).fz).ov oi_none (oi_some (ev_minus (ev_int).ov ((ev_fn call_len pure_len (by rfl) T.b_len (by decide +kernel) (av_cons ((ev_var 3)).ov av_nil))).ov))))
 (bv_cons (sv_if (tv_not (tv_val (ev_call c_law_alike C.room C.tk (by rfl) (av_cons ((ev_call c_law_told C.room C.tk (by rfl) (av_cons ((ev_mt PySem.F.plainAttrs_str PySem.F.slot_str_join PySem.F.type_str_join mt_join pure_join ((ev_str [10])).ov (av_cons ((ev_plus ((ev_var 4)).ov (((ev_lc [("name", 10)] C.calm (iv_any (ev_var 8)) (blkOk_by (N := ["script", "row", "turn", "lights", "rows", "text", "at", "wrong", "names", "odd", "name", "character", "one", "light"]) (sc := defScope s_law) (by first | decide +kernel | kernel_rfl)) (fun s0 H0 C0 cl0 fp0 => (gv_name 10)) (fun s0 H0 C0 cl0 fp0 => (ev_plus ((ev_var 10)).ov ((ev_str [32, 68, 50])).ov)))).fz).ov)).ov av_nil))).ov av_nil) (hk := by first | decide | omega))).ov (av_cons ((ev_tup (av_cons (ev_bl).ov (av_cons (ev_int).ov av_nil)))).ov av_nil)) (hk := by first | decide | omega)))) (bv_one (sv_ret ev_bl)) bv_nil)
 (bv_cons (sv_set 9 (ev_callR 1 c_law_pick C.room C.tk (by rfl) (pe_var (i := 1) (by rfl) (by first | exact Or.inl rfl | exact Or.inr (Or.inl rfl) | exact Or.inr (Or.inr rfl))) (av_cons (((ev_lstO (av_cons (ev_non).ov (av_cons (ev_int).ov (av_cons (((ev_lstO (av_cons ((ev_var 5)).ov av_nil))).fz).ov (av_cons ((ev_tup (av_cons ((ev_str [97])).ov av_nil))).ov (av_cons (ev_bl).ov av_nil))))))).fz).ov av_nil) (hk := by first | decide | omega)))
 (bv_one (sv_if (WV.tv (wv_or (tv_not (tv_val (ev_call c_law_alike C.room C.tk (by rfl) (av_cons ((ev_call c_law_told C.room C.tk (by rfl) (av_cons ((ev_var 9)).ov av_nil) (hk := by first | decide | omega))).ov (av_cons ((ev_tup (av_cons (ev_bl).ov (av_cons (ev_int).ov av_nil)))).ov av_nil)) (hk := by first | decide | omega)))) (wv_or1 (tv_not (tv_val (ev_call c_law_alike C.room C.tk (by rfl) (av_cons ((ev_call c_law_told C.room C.tk (by rfl) (av_cons ((ev_str [])).ov av_nil) (hk := by first | decide | omega))).ov (av_cons ((ev_tup (av_cons (ev_bl).ov (av_cons (ev_int).ov av_nil)))).ov av_nil)) (hk := by first | decide | omega))))))) (bv_one (sv_ret ev_bl)) bv_nil))))))))))))))
 (bv_one (sv_ret ev_bl))))
theorem c_law (T : Top K mg) (TX : Tex w K mg base) (c_law_coast : CalR PR w K mg base 4 "_law_coast" 2 .fr F_law_coast) (c_law_taken : CalR PR w K mg base 1 "_law_taken" 1 .fr F_law_taken) (c_law_text : CalP PR w K mg base 1 "_law_text" 1 .fr F_law_text) (c_law_alike : CalP PR w K mg base 9 "_law_alike" 2 .fr (F_law_alike 8)) (c_coast_text : CalP PR w K mg base 2 "coast_text" 1 .fr F_coast_text) (c_Coast_init : CalI PR w K mg base 3 "Coast" 1 F_Coast_init) (c_law_told : CalP PR w K mg base 6 "_law_told" 1 .fr F_law_told) (c_law_pick : CalR PR w K mg base 2 "_law_pick" 1 .fr F_law_pick) : CalP PR w K mg base 10 "law" 1 .fr F_law := by
  obtain ⟨f, fd, F, hm, b⟩ := T.t_law.ex; exact ⟨f, fd, _, fn_pure F sc_law (by rfl) (by decide) (b_law T TX c_law_coast c_law_taken c_law_text c_law_alike c_coast_text c_Coast_init c_law_told c_law_pick f), hm, F.kp, b⟩
end K31

noncomputable section
namespace K31
open PySem PySem.Spec L2 L3
open PyProof.Rows hiding St
local macro_rules
  | `(tactic| simp! [$as,*]) => `(tactic| simp -dsimp -implicitDefEqProofs only [sq_nx, sq_rt, sq_bk, sq_ct, sq_ex, lp_nx, lp_rt, lp_bk, lp_ct, lp_ex, tr_nx, tr_rt, tr_bk, tr_ct, tr_ex, ↓OpX_one, ↓Po_Try, ↓Ok_ok, ↓Ok_opt, ↓Ok_bind, ↓Op_some, ↓Op_none, ↓Op_ite, ↓Op_map, ↓Op_bindO, 
      ↓OpB_bl, ↓Ok_var, ↓Ok_C, opd_ex, opd_sl, un_lst, un_tup, un_int, un_str, un_bl, un_non, un_dic, un_ins, un_scr, un_fz, un_nd, ↓Ok_m2, ↓Ok_B, ↓Ok_Not, ↓Ok_AndT, ↓Ok_OrT, ↓Ok_And, ↓Ok_Or, ↓Ok_NotV, 
      ↓Ok_If, ↓Ok_Nil, ↓Ok_Cons, ↓Ok_Tup, ↓Ok_Lst, opds_nil, opds_cons, ↓Ok_Fn, ↓Ok_FnN, ↓Ok_Call, ↓OpL_some, ↓Ok_CallR, ↓Ok_Neg, ↓Ok_NoI, ↓Ok_SoI, ↓Ok_Cut, ↓Ok_Chain, ↓Ok_isa, ↓Ok_isa2, ↓Ok_ite, ↓Ok_Mt, 
      ↓Po_nx, ↓Po_rt, ↓Po_st, ↓Po_Skip, ↓Po_Seq, ↓Po_Set, ↓Po_Ret, ↓Po_RetN, ↓Po_Bk, ↓Po_Ct, ↓Po_Expr, ↓Po_If, ↓Po_Asg, ↓Po_Par, ↓Po_Par3, ↓Po_Aug, ↓Po_For, ↓Po_While, ↓Po_Raise, ↓Ok_Rng1, ↓Ok_Rng2, 
      ↓Ok_Rng3, ↓Ok_Enum, ↓Ok_Zip, two, ↓Ok_It, ↓Ok_ItL, ↓Po_Mut, ↓Po_Store, ↓gdP_none, ↓gdP_some, ↓Ok_gdE, ↓OkF_denP, ↓OkR_denR, ↓OkF_ok, ↓OkF_exc, ↓OkR_ok, ↓Ok_CallQ, ↓OkQ_denQ, ↓OkQ_ok, env0_def, 
      rep_zero, rep_succ, List.map_cons, List.map_nil, List.cons_append, List.nil_append, List.length_cons, List.length_nil, Nat.zero_add, Nat.reduceAdd, Nat.reduceSub, List.getElem?_cons_zero, 
      List.getElem?_cons_succ, Option.join_some, Option.join_none, List.set_cons_zero, List.set_cons_succ, Option.bind_some, Option.map_some, if_true, if_false, Bool.false_eq_true, Bool.not_true, 
      Bool.not_false, decide_true, decide_false, and_true, true_and, L3.f1, L3.f2, L3.f1N, L3.int1, L3.int2, L3.int3, gfN, gfNil, gfCons, gfT, L3.gfL, dPlus, dMinus, dTimes, dDiv, dMod, dPow_10, dLt, dGt, 
      dLe, dGe, dEq_int, dEq_str, dEq_bl, dNe_int, dNe_str, dNe_bl, dIsN, dNotN, D.isNon, dEq_non, dEq_nil, dIn_sign, dNotIn_sign, dIx, dCut, dLen, dInt, dMin2, dMax2, dItems, dItemsT, ↓Ok_ListRg, ↓Ok_RevL, 
      dTuple, dAdd, dSub, itemsD, mYes, dIsa, dIsa2, tyD, isaB, dTy, String.reduceBEq, Bool.or_true, Bool.or_false, Bool.true_or, Bool.false_or, Bool.and_true, Bool.and_false, Bool.true_and, Bool.false_and, 
      Bool.not_eq_true', decide_eq_true_eq, decide_eq_false_iff_not, ixN_40, ixN_41, ixN_42, ixN_43, wipeE, restE, List.foldr_cons, List.foldr_nil, atI_0, atI_1, atI_2, atI_3, atI_4, and_self, mulOkI_r, 
      mulOkI_l, Int.reduceLT, Int.reduceLE, Int.reduceMul, Int.reduceAdd, Int.reduceSub, Int.reduceNeg, Int.reduceDiv, Int.reduceMod, Int.reducePow, Int.reduceToNat, Int.reduceEq, Nat.reducePow, 
      Nat.reduceMul, Nat.reduceLT, Nat.reduceLeDiff, ↓Ok_Fld, fldD, fldOf, ↓OpI_ins, ↓OpIS_ins, ↓Ok_Meth, ↓Po_FldS, ↓OkF_denI, ↓Ok_ItK, ↓Ok_PNil, ↓Ok_PCons, ↓Ok_Disp, dDGet_str, dDGet_int, dKeysL_nil, 
      dKeysL_str, dGetD_str, okKeys_1, dLtG_int, dLtG_str, dLtG_n, putN, putX, hasN, List.any_nil, List.any_cons, beq_self_eq_true, ↓Ok_CallB, ↓OpG_lst, ↓Po_Gst, ↓OpF_int, ↓OpF_bl, ↓OpF_str, ↓OpF_non, 
      ↓OpF_tup, ↓Ok_Flat, ↓Ok_ReplC, ↓Ok_GIx, ↓Ok_GIn, ↓OpGi_str, ↓OpRp_str, ↓Po_Try2, L3.flatB, ↓Ok_Frz, ↓Ok_Fz, ↓Ok_Und, ↓Ok_TIndex, ↓Ok_TCount, ↓Ok_StarC, ↓Ok_LstZ, unnd_nd, unnd_tup, ndT, dTIx, dTupN, 
      itemsS, $as,*])
  | `(tactic| simp!) => `(tactic| simp -dsimp -implicitDefEqProofs only [sq_nx, sq_rt, sq_bk, sq_ct, sq_ex, lp_nx, lp_rt, lp_bk, lp_ct, lp_ex, tr_nx, tr_rt, tr_bk, tr_ct, tr_ex, ↓OpX_one, ↓Po_Try, ↓Ok_ok, ↓Ok_opt, ↓Ok_bind, ↓Op_some, ↓Op_none, ↓Op_ite, ↓Op_map, ↓Op_bindO, 
      ↓OpB_bl, ↓Ok_var, ↓Ok_C, opd_ex, opd_sl, un_lst, un_tup, un_int, un_str, un_bl, un_non, un_dic, un_ins, un_scr, un_fz, un_nd, ↓Ok_m2, ↓Ok_B, ↓Ok_Not, ↓Ok_AndT, ↓Ok_OrT, ↓Ok_And, ↓Ok_Or, ↓Ok_NotV, 
      ↓Ok_If, ↓Ok_Nil, ↓Ok_Cons, ↓Ok_Tup, ↓Ok_Lst, opds_nil, opds_cons, ↓Ok_Fn, ↓Ok_FnN, ↓Ok_Call, ↓OpL_some, ↓Ok_CallR, ↓Ok_Neg, ↓Ok_NoI, ↓Ok_SoI, ↓Ok_Cut, ↓Ok_Chain, ↓Ok_isa, ↓Ok_isa2, ↓Ok_ite, ↓Ok_Mt, 
      ↓Po_nx, ↓Po_rt, ↓Po_st, ↓Po_Skip, ↓Po_Seq, ↓Po_Set, ↓Po_Ret, ↓Po_RetN, ↓Po_Bk, ↓Po_Ct, ↓Po_Expr, ↓Po_If, ↓Po_Asg, ↓Po_Par, ↓Po_Par3, ↓Po_Aug, ↓Po_For, ↓Po_While, ↓Po_Raise, ↓Ok_Rng1, ↓Ok_Rng2, 
      ↓Ok_Rng3, ↓Ok_Enum, ↓Ok_Zip, two, ↓Ok_It, ↓Ok_ItL, ↓Po_Mut, ↓Po_Store, ↓gdP_none, ↓gdP_some, ↓Ok_gdE, ↓OkF_denP, ↓OkR_denR, ↓OkF_ok, ↓OkF_exc, ↓OkR_ok, ↓Ok_CallQ, ↓OkQ_denQ, ↓OkQ_ok, env0_def, 
      rep_zero, rep_succ, List.map_cons, List.map_nil, List.cons_append, List.nil_append, List.length_cons, List.length_nil, Nat.zero_add, Nat.reduceAdd, Nat.reduceSub, List.getElem?_cons_zero, 
      List.getElem?_cons_succ, Option.join_some, Option.join_none, List.set_cons_zero, List.set_cons_succ, Option.bind_some, Option.map_some, if_true, if_false, Bool.false_eq_true, Bool.not_true, 
      Bool.not_false, decide_true, decide_false, and_true, true_and, L3.f1, L3.f2, L3.f1N, L3.int1, L3.int2, L3.int3, gfN, gfNil, gfCons, gfT, L3.gfL, dPlus, dMinus, dTimes, dDiv, dMod, dPow_10, dLt, dGt, 
      dLe, dGe, dEq_int, dEq_str, dEq_bl, dNe_int, dNe_str, dNe_bl, dIsN, dNotN, D.isNon, dEq_non, dEq_nil, dIn_sign, dNotIn_sign, dIx, dCut, dLen, dInt, dMin2, dMax2, dItems, dItemsT, ↓Ok_ListRg, ↓Ok_RevL, 
      dTuple, dAdd, dSub, itemsD, mYes, dIsa, dIsa2, tyD, isaB, dTy, String.reduceBEq, Bool.or_true, Bool.or_false, Bool.true_or, Bool.false_or, Bool.and_true, Bool.and_false, Bool.true_and, Bool.false_and, 
      Bool.not_eq_true', decide_eq_true_eq, decide_eq_false_iff_not, ixN_40, ixN_41, ixN_42, ixN_43, wipeE, restE, List.foldr_cons, List.foldr_nil, atI_0, atI_1, atI_2, atI_3, atI_4, and_self, mulOkI_r, 
      mulOkI_l, Int.reduceLT, Int.reduceLE, Int.reduceMul, Int.reduceAdd, Int.reduceSub, Int.reduceNeg, Int.reduceDiv, Int.reduceMod, Int.reducePow, Int.reduceToNat, Int.reduceEq, Nat.reducePow, 
      Nat.reduceMul, Nat.reduceLT, Nat.reduceLeDiff, ↓Ok_Fld, fldD, fldOf, ↓OpI_ins, ↓OpIS_ins, ↓Ok_Meth, ↓Po_FldS, ↓OkF_denI, ↓Ok_ItK, ↓Ok_PNil, ↓Ok_PCons, ↓Ok_Disp, dDGet_str, dDGet_int, dKeysL_nil, 
      dKeysL_str, dGetD_str, okKeys_1, dLtG_int, dLtG_str, dLtG_n, putN, putX, hasN, List.any_nil, List.any_cons, beq_self_eq_true, ↓Ok_CallB, ↓OpG_lst, ↓Po_Gst, ↓OpF_int, ↓OpF_bl, ↓OpF_str, ↓OpF_non, 
      ↓OpF_tup, ↓Ok_Flat, ↓Ok_ReplC, ↓Ok_GIx, ↓Ok_GIn, ↓OpGi_str, ↓OpRp_str, ↓Po_Try2, L3.flatB, ↓Ok_Frz, ↓Ok_Fz, ↓Ok_Und, ↓Ok_TIndex, ↓Ok_TCount, ↓Ok_StarC, ↓Ok_LstZ, unnd_nd, unnd_tup, ndT, dTIx, dTupN, 
      itemsS])
  | `(tactic| dsimp! [$as,*]) => `(tactic| simp -dsimp -implicitDefEqProofs only [sq_nx, sq_rt, sq_bk, sq_ct, sq_ex, lp_nx, lp_rt, lp_bk, lp_ct, lp_ex, tr_nx, tr_rt, tr_bk, tr_ct, tr_ex, ↓OpX_one, ↓Po_Try, ↓Ok_ok, ↓Ok_opt, ↓Ok_bind, ↓Op_some, ↓Op_none, ↓Op_ite, ↓Op_map, ↓Op_bindO, 
      ↓OpB_bl, ↓Ok_var, ↓Ok_C, opd_ex, opd_sl, un_lst, un_tup, un_int, un_str, un_bl, un_non, un_dic, un_ins, un_scr, un_fz, un_nd, ↓Ok_m2, ↓Ok_B, ↓Ok_Not, ↓Ok_AndT, ↓Ok_OrT, ↓Ok_And, ↓Ok_Or, ↓Ok_NotV, 
      ↓Ok_Nil, ↓Ok_Cons, ↓Ok_Tup, ↓Ok_Lst, opds_nil, opds_cons, ↓Ok_Fn, ↓Ok_FnN, ↓Ok_Call, ↓OpL_some, ↓Ok_CallR, ↓Ok_Neg, ↓Ok_NoI, ↓Ok_SoI, ↓Ok_Cut, ↓Ok_Chain, ↓Ok_isa, ↓Ok_isa2, ↓Ok_ite, ↓Ok_Mt, ↓Po_nx, 
      ↓Po_rt, ↓Po_st, ↓Po_Skip, ↓Po_Seq, ↓Po_Set, ↓Po_Ret, ↓Po_RetN, ↓Po_Bk, ↓Po_Ct, ↓Po_Expr, ↓Po_If, ↓Po_Asg, ↓Po_Par, ↓Po_Par3, ↓Po_Aug, ↓Po_For, ↓Po_While, ↓Po_Raise, ↓Ok_Rng1, ↓Ok_Rng2, ↓Ok_Rng3, 
      ↓Ok_Enum, ↓Ok_Zip, two, ↓Ok_It, ↓Ok_ItL, ↓Po_Mut, ↓Po_Store, ↓gdP_none, ↓gdP_some, ↓Ok_gdE, ↓OkF_denP, ↓OkR_denR, ↓OkF_ok, ↓OkF_exc, ↓OkR_ok, ↓Ok_CallQ, ↓OkQ_denQ, ↓OkQ_ok, env0_def, rep_zero, 
      rep_succ, List.map_cons, List.map_nil, List.cons_append, List.nil_append, List.length_cons, List.length_nil, Nat.zero_add, Nat.reduceAdd, Nat.reduceSub, List.getElem?_cons_zero, 
      List.getElem?_cons_succ, Option.join_some, Option.join_none, List.set_cons_zero, List.set_cons_succ, Option.bind_some, Option.map_some, if_true, if_false, Bool.false_eq_true, Bool.not_true, 
      Bool.not_false, decide_true, decide_false, and_true, true_and, L3.f1, L3.f2, L3.f1N, L3.int1, L3.int2, L3.int3, gfN, gfNil, gfCons, gfT, L3.gfL, dPlus, dMinus, dTimes, dDiv, dMod, dPow_10, dLt, dGt, 
      dLe, dGe, dEq_int, dEq_str, dEq_bl, dNe_int, dNe_str, dNe_bl, dIsN, dNotN, D.isNon, dEq_non, dEq_nil, dIn_sign, dNotIn_sign, dIx, dCut, dLen, dInt, dMin2, dMax2, dItems, dItemsT, ↓Ok_ListRg, ↓Ok_RevL, 
      dTuple, dAdd, dSub, itemsD, mYes, dIsa, dIsa2, tyD, isaB, dTy, String.reduceBEq, Bool.or_true, Bool.or_false, Bool.true_or, Bool.false_or, Bool.and_true, Bool.and_false, Bool.true_and, Bool.false_and, 
      Bool.not_eq_true', decide_eq_true_eq, decide_eq_false_iff_not, ixN_40, ixN_41, ixN_42, ixN_43, wipeE, restE, List.foldr_cons, List.foldr_nil, atI_0, atI_1, atI_2, atI_3, atI_4, and_self, mulOkI_r, 
      mulOkI_l, Int.reduceLT, Int.reduceLE, Int.reduceMul, Int.reduceAdd, Int.reduceSub, Int.reduceNeg, Int.reduceDiv, Int.reduceMod, Int.reducePow, Int.reduceToNat, Int.reduceEq, Nat.reducePow, 
      Nat.reduceMul, Nat.reduceLT, Nat.reduceLeDiff, ↓Ok_Fld, fldD, fldOf, ↓OpI_ins, ↓OpIS_ins, ↓Ok_Meth, ↓Po_FldS, ↓OkF_denI, ↓Ok_ItK, ↓Ok_PNil, ↓Ok_PCons, ↓Ok_Disp, dDGet_str, dDGet_int, dKeysL_nil, 
      dKeysL_str, dGetD_str, okKeys_1, dLtG_int, dLtG_str, dLtG_n, putN, putX, hasN, List.any_nil, List.any_cons, beq_self_eq_true, ↓Ok_CallB, ↓OpG_lst, ↓Po_Gst, ↓OpF_int, ↓OpF_bl, ↓OpF_str, ↓OpF_non, 
      ↓OpF_tup, ↓Ok_Flat, ↓Ok_ReplC, ↓Ok_GIx, ↓Ok_GIn, ↓OpGi_str, ↓OpRp_str, ↓Po_Try2, L3.flatB, ↓Ok_Frz, ↓Ok_Fz, ↓Ok_Und, ↓Ok_TIndex, ↓Ok_TCount, ↓Ok_StarC, ↓Ok_LstZ, unnd_nd, unnd_tup, ndT, dTIx, dTupN, 
      itemsS, $as,*])
  | `(tactic| dsimp!) => `(tactic| simp -dsimp -implicitDefEqProofs only [sq_nx, sq_rt, sq_bk, sq_ct, sq_ex, lp_nx, lp_rt, lp_bk, lp_ct, lp_ex, tr_nx, tr_rt, tr_bk, tr_ct, tr_ex, ↓OpX_one, ↓Po_Try, ↓Ok_ok, ↓Ok_opt, ↓Ok_bind, ↓Op_some, ↓Op_none, ↓Op_ite, ↓Op_map, ↓Op_bindO, 
      ↓OpB_bl, ↓Ok_var, ↓Ok_C, opd_ex, opd_sl, un_lst, un_tup, un_int, un_str, un_bl, un_non, un_dic, un_ins, un_scr, un_fz, un_nd, ↓Ok_m2, ↓Ok_B, ↓Ok_Not, ↓Ok_AndT, ↓Ok_OrT, ↓Ok_And, ↓Ok_Or, ↓Ok_NotV, 
      ↓Ok_Nil, ↓Ok_Cons, ↓Ok_Tup, ↓Ok_Lst, opds_nil, opds_cons, ↓Ok_Fn, ↓Ok_FnN, ↓Ok_Call, ↓OpL_some, ↓Ok_CallR, ↓Ok_Neg, ↓Ok_NoI, ↓Ok_SoI, ↓Ok_Cut, ↓Ok_Chain, ↓Ok_isa, ↓Ok_isa2, ↓Ok_ite, ↓Ok_Mt, ↓Po_nx, 
      ↓Po_rt, ↓Po_st, ↓Po_Skip, ↓Po_Seq, ↓Po_Set, ↓Po_Ret, ↓Po_RetN, ↓Po_Bk, ↓Po_Ct, ↓Po_Expr, ↓Po_If, ↓Po_Asg, ↓Po_Par, ↓Po_Par3, ↓Po_Aug, ↓Po_For, ↓Po_While, ↓Po_Raise, ↓Ok_Rng1, ↓Ok_Rng2, ↓Ok_Rng3, 
      ↓Ok_Enum, ↓Ok_Zip, two, ↓Ok_It, ↓Ok_ItL, ↓Po_Mut, ↓Po_Store, ↓gdP_none, ↓gdP_some, ↓Ok_gdE, ↓OkF_denP, ↓OkR_denR, ↓OkF_ok, ↓OkF_exc, ↓OkR_ok, ↓Ok_CallQ, ↓OkQ_denQ, ↓OkQ_ok, env0_def, rep_zero, 
      rep_succ, List.map_cons, List.map_nil, List.cons_append, List.nil_append, List.length_cons, List.length_nil, Nat.zero_add, Nat.reduceAdd, Nat.reduceSub, List.getElem?_cons_zero, 
      List.getElem?_cons_succ, Option.join_some, Option.join_none, List.set_cons_zero, List.set_cons_succ, Option.bind_some, Option.map_some, if_true, if_false, Bool.false_eq_true, Bool.not_true, 
      Bool.not_false, decide_true, decide_false, and_true, true_and, L3.f1, L3.f2, L3.f1N, L3.int1, L3.int2, L3.int3, gfN, gfNil, gfCons, gfT, L3.gfL, dPlus, dMinus, dTimes, dDiv, dMod, dPow_10, dLt, dGt, 
      dLe, dGe, dEq_int, dEq_str, dEq_bl, dNe_int, dNe_str, dNe_bl, dIsN, dNotN, D.isNon, dEq_non, dEq_nil, dIn_sign, dNotIn_sign, dIx, dCut, dLen, dInt, dMin2, dMax2, dItems, dItemsT, ↓Ok_ListRg, ↓Ok_RevL, 
      dTuple, dAdd, dSub, itemsD, mYes, dIsa, dIsa2, tyD, isaB, dTy, String.reduceBEq, Bool.or_true, Bool.or_false, Bool.true_or, Bool.false_or, Bool.and_true, Bool.and_false, Bool.true_and, Bool.false_and, 
      Bool.not_eq_true', decide_eq_true_eq, decide_eq_false_iff_not, ixN_40, ixN_41, ixN_42, ixN_43, wipeE, restE, List.foldr_cons, List.foldr_nil, atI_0, atI_1, atI_2, atI_3, atI_4, and_self, mulOkI_r, 
      mulOkI_l, Int.reduceLT, Int.reduceLE, Int.reduceMul, Int.reduceAdd, Int.reduceSub, Int.reduceNeg, Int.reduceDiv, Int.reduceMod, Int.reducePow, Int.reduceToNat, Int.reduceEq, Nat.reducePow, 
      Nat.reduceMul, Nat.reduceLT, Nat.reduceLeDiff, ↓Ok_Fld, fldD, fldOf, ↓OpI_ins, ↓OpIS_ins, ↓Ok_Meth, ↓Po_FldS, ↓OkF_denI, ↓Ok_ItK, ↓Ok_PNil, ↓Ok_PCons, ↓Ok_Disp, dDGet_str, dDGet_int, dKeysL_nil, 
      dKeysL_str, dGetD_str, okKeys_1, dLtG_int, dLtG_str, dLtG_n, putN, putX, hasN, List.any_nil, List.any_cons, beq_self_eq_true, ↓Ok_CallB, ↓OpG_lst, ↓Po_Gst, ↓OpF_int, ↓OpF_bl, ↓OpF_str, ↓OpF_non, 
      ↓OpF_tup, ↓Ok_Flat, ↓Ok_ReplC, ↓Ok_GIx, ↓Ok_GIn, ↓OpGi_str, ↓OpRp_str, ↓Po_Try2, L3.flatB, ↓Ok_Frz, ↓Ok_Fz, ↓Ok_Und, ↓Ok_TIndex, ↓Ok_TCount, ↓Ok_StarC, ↓Ok_LstZ, unnd_nd, unnd_tup, ndT, dTIx, dTupN, 
      itemsS])
  | `(tactic| simp_all! [$as,*]) => `(tactic| simp -dsimp -implicitDefEqProofs only [sq_nx, sq_rt, sq_bk, sq_ct, sq_ex, lp_nx, lp_rt, lp_bk, lp_ct, lp_ex, tr_nx, tr_rt, tr_bk, tr_ct, tr_ex, ↓OpX_one, ↓Po_Try, ↓Ok_ok, ↓Ok_opt, ↓Ok_bind, ↓Op_some, ↓Op_none, ↓Op_ite, ↓Op_map, ↓Op_bindO, 
      ↓OpB_bl, ↓Ok_var, ↓Ok_C, opd_ex, opd_sl, un_lst, un_tup, un_int, un_str, un_bl, un_non, un_dic, un_ins, un_scr, un_fz, un_nd, ↓Ok_m2, ↓Ok_B, ↓Ok_Not, ↓Ok_AndT, ↓Ok_OrT, ↓Ok_And, ↓Ok_Or, ↓Ok_NotV, 
      ↓Ok_Nil, ↓Ok_Cons, ↓Ok_Tup, ↓Ok_Lst, opds_nil, opds_cons, ↓Ok_Fn, ↓Ok_FnN, ↓Ok_Call, ↓OpL_some, ↓Ok_CallR, ↓Ok_Neg, ↓Ok_NoI, ↓Ok_SoI, ↓Ok_Cut, ↓Ok_Chain, ↓Ok_isa, ↓Ok_isa2, ↓Ok_ite, ↓Ok_Mt, ↓Po_nx, 
      ↓Po_rt, ↓Po_st, ↓Po_Skip, ↓Po_Seq, ↓Po_Set, ↓Po_Ret, ↓Po_RetN, ↓Po_Bk, ↓Po_Ct, ↓Po_Expr, ↓Po_Asg, ↓Po_Par, ↓Po_Par3, ↓Po_Aug, ↓Po_For, ↓Po_While, ↓Po_Raise, ↓Ok_Rng1, ↓Ok_Rng2, ↓Ok_Rng3, ↓Ok_Enum, 
      ↓Ok_Zip, two, ↓Ok_It, ↓Ok_ItL, ↓Po_Mut, ↓Po_Store, ↓gdP_none, ↓gdP_some, ↓Ok_gdE, ↓OkF_denP, ↓OkR_denR, ↓OkF_ok, ↓OkF_exc, ↓OkR_ok, ↓Ok_CallQ, ↓OkQ_denQ, ↓OkQ_ok, env0_def, rep_zero, rep_succ, 
      List.map_cons, List.map_nil, List.cons_append, List.nil_append, List.length_cons, List.length_nil, Nat.zero_add, Nat.reduceAdd, Nat.reduceSub, List.getElem?_cons_zero, List.getElem?_cons_succ, 
      Option.join_some, Option.join_none, List.set_cons_zero, List.set_cons_succ, Option.bind_some, Option.map_some, if_true, if_false, Bool.false_eq_true, Bool.not_true, Bool.not_false, decide_true, 
      decide_false, and_true, true_and, L3.f1, L3.f2, L3.f1N, L3.int1, L3.int2, L3.int3, gfN, gfNil, gfCons, gfT, L3.gfL, dPlus, dMinus, dTimes, dDiv, dMod, dPow_10, dLt, dGt, dLe, dGe, dEq_int, dEq_str, 
      dEq_bl, dNe_int, dNe_str, dNe_bl, dIsN, dNotN, D.isNon, dEq_non, dEq_nil, dIn_sign, dNotIn_sign, dIx, dCut, dLen, dInt, dMin2, dMax2, dItems, dItemsT, ↓Ok_ListRg, ↓Ok_RevL, dTuple, dAdd, dSub, itemsD, 
      mYes, dIsa, dIsa2, tyD, isaB, dTy, String.reduceBEq, Bool.or_true, Bool.or_false, Bool.true_or, Bool.false_or, Bool.and_true, Bool.and_false, Bool.true_and, Bool.false_and, Bool.not_eq_true', 
      decide_eq_true_eq, decide_eq_false_iff_not, ixN_40, ixN_41, ixN_42, ixN_43, wipeE, restE, List.foldr_cons, List.foldr_nil, atI_0, atI_1, atI_2, atI_3, atI_4, and_self, mulOkI_r, mulOkI_l, Int.reduceLT, 
      Int.reduceLE, Int.reduceMul, Int.reduceAdd, Int.reduceSub, Int.reduceNeg, Int.reduceDiv, Int.reduceMod, Int.reducePow, Int.reduceToNat, Int.reduceEq, Nat.reducePow, Nat.reduceMul, Nat.reduceLT, 
      Nat.reduceLeDiff, ↓Ok_Fld, fldD, fldOf, ↓OpI_ins, ↓OpIS_ins, ↓Ok_Meth, ↓Po_FldS, ↓OkF_denI, ↓Ok_ItK, ↓Ok_PNil, ↓Ok_PCons, ↓Ok_Disp, dDGet_str, dDGet_int, dKeysL_nil, dKeysL_str, dGetD_str, okKeys_1, 
      dLtG_int, dLtG_str, dLtG_n, putN, putX, hasN, List.any_nil, List.any_cons, beq_self_eq_true, ↓Ok_CallB, ↓OpG_lst, ↓Po_Gst, ↓OpF_int, ↓OpF_bl, ↓OpF_str, ↓OpF_non, ↓OpF_tup, ↓Ok_Flat, ↓Ok_ReplC, ↓Ok_GIx, 
      ↓Ok_GIn, ↓OpGi_str, ↓OpRp_str, ↓Po_Try2, L3.flatB, ↓Ok_Frz, ↓Ok_Fz, ↓Ok_Und, ↓Ok_TIndex, ↓Ok_TCount, ↓Ok_StarC, ↓Ok_LstZ, unnd_nd, unnd_tup, ndT, dTIx, dTupN, itemsS, $as,*])
  | `(tactic| simp_all!) => `(tactic| simp -dsimp -implicitDefEqProofs only [sq_nx, sq_rt, sq_bk, sq_ct, sq_ex, lp_nx, lp_rt, lp_bk, lp_ct, lp_ex, tr_nx, tr_rt, tr_bk, tr_ct, tr_ex, ↓OpX_one, ↓Po_Try, ↓Ok_ok, ↓Ok_opt, ↓Ok_bind, ↓Op_some, ↓Op_none, ↓Op_ite, ↓Op_map, ↓Op_bindO, 
      ↓OpB_bl, ↓Ok_var, ↓Ok_C, opd_ex, opd_sl, un_lst, un_tup, un_int, un_str, un_bl, un_non, un_dic, un_ins, un_scr, un_fz, un_nd, ↓Ok_m2, ↓Ok_B, ↓Ok_Not, ↓Ok_AndT, ↓Ok_OrT, ↓Ok_And, ↓Ok_Or, ↓Ok_NotV, 
      ↓Ok_Nil, ↓Ok_Cons, ↓Ok_Tup, ↓Ok_Lst, opds_nil, opds_cons, ↓Ok_Fn, ↓Ok_FnN, ↓Ok_Call, ↓OpL_some, ↓Ok_CallR, ↓Ok_Neg, ↓Ok_NoI, ↓Ok_SoI, ↓Ok_Cut, ↓Ok_Chain, ↓Ok_isa, ↓Ok_isa2, ↓Ok_ite, ↓Ok_Mt, ↓Po_nx, 
      ↓Po_rt, ↓Po_st, ↓Po_Skip, ↓Po_Seq, ↓Po_Set, ↓Po_Ret, ↓Po_RetN, ↓Po_Bk, ↓Po_Ct, ↓Po_Expr, ↓Po_Asg, ↓Po_Par, ↓Po_Par3, ↓Po_Aug, ↓Po_For, ↓Po_While, ↓Po_Raise, ↓Ok_Rng1, ↓Ok_Rng2, ↓Ok_Rng3, ↓Ok_Enum, 
      ↓Ok_Zip, two, ↓Ok_It, ↓Ok_ItL, ↓Po_Mut, ↓Po_Store, ↓gdP_none, ↓gdP_some, ↓Ok_gdE, ↓OkF_denP, ↓OkR_denR, ↓OkF_ok, ↓OkF_exc, ↓OkR_ok, ↓Ok_CallQ, ↓OkQ_denQ, ↓OkQ_ok, env0_def, rep_zero, rep_succ, 
      List.map_cons, List.map_nil, List.cons_append, List.nil_append, List.length_cons, List.length_nil, Nat.zero_add, Nat.reduceAdd, Nat.reduceSub, List.getElem?_cons_zero, List.getElem?_cons_succ, 
      Option.join_some, Option.join_none, List.set_cons_zero, List.set_cons_succ, Option.bind_some, Option.map_some, if_true, if_false, Bool.false_eq_true, Bool.not_true, Bool.not_false, decide_true, 
      decide_false, and_true, true_and, L3.f1, L3.f2, L3.f1N, L3.int1, L3.int2, L3.int3, gfN, gfNil, gfCons, gfT, L3.gfL, dPlus, dMinus, dTimes, dDiv, dMod, dPow_10, dLt, dGt, dLe, dGe, dEq_int, dEq_str, 
      dEq_bl, dNe_int, dNe_str, dNe_bl, dIsN, dNotN, D.isNon, dEq_non, dEq_nil, dIn_sign, dNotIn_sign, dIx, dCut, dLen, dInt, dMin2, dMax2, dItems, dItemsT, ↓Ok_ListRg, ↓Ok_RevL, dTuple, dAdd, dSub, itemsD, 
      mYes, dIsa, dIsa2, tyD, isaB, dTy, String.reduceBEq, Bool.or_true, Bool.or_false, Bool.true_or, Bool.false_or, Bool.and_true, Bool.and_false, Bool.true_and, Bool.false_and, Bool.not_eq_true', 
      decide_eq_true_eq, decide_eq_false_iff_not, ixN_40, ixN_41, ixN_42, ixN_43, wipeE, restE, List.foldr_cons, List.foldr_nil, atI_0, atI_1, atI_2, atI_3, atI_4, and_self, mulOkI_r, mulOkI_l, Int.reduceLT, 
      Int.reduceLE, Int.reduceMul, Int.reduceAdd, Int.reduceSub, Int.reduceNeg, Int.reduceDiv, Int.reduceMod, Int.reducePow, Int.reduceToNat, Int.reduceEq, Nat.reducePow, Nat.reduceMul, Nat.reduceLT, 
      Nat.reduceLeDiff, ↓Ok_Fld, fldD, fldOf, ↓OpI_ins, ↓OpIS_ins, ↓Ok_Meth, ↓Po_FldS, ↓OkF_denI, ↓Ok_ItK, ↓Ok_PNil, ↓Ok_PCons, ↓Ok_Disp, dDGet_str, dDGet_int, dKeysL_nil, dKeysL_str, dGetD_str, okKeys_1, 
      dLtG_int, dLtG_str, dLtG_n, putN, putX, hasN, List.any_nil, List.any_cons, beq_self_eq_true, ↓Ok_CallB, ↓OpG_lst, ↓Po_Gst, ↓OpF_int, ↓OpF_bl, ↓OpF_str, ↓OpF_non, ↓OpF_tup, ↓Ok_Flat, ↓Ok_ReplC, ↓Ok_GIx, 
      ↓Ok_GIn, ↓OpGi_str, ↓OpRp_str, ↓Po_Try2, L3.flatB, ↓Ok_Frz, ↓Ok_Fz, ↓Ok_Und, ↓Ok_TIndex, ↓Ok_TCount, ↓Ok_StarC, ↓Ok_LstZ, unnd_nd, unnd_tup, ndT, dTIx, dTupN, itemsS])
/-! int -/
/-! signs -/
theorem is_of_signs_str (s cs : List Nat) (h : s.length ≤ sizeLine) : F_is_of_signs [.str s, .str cs] = .ok (.bl (s.all fun c => decide (c ∈ cs))) := by
  apply okF_of
  unfold F_is_of_signs d_is_of_signs
  simp!
  refine Ok_Lc_pure (fun _ => true) (fun d => match d with | .str [c] => .bl (decide (c ∈ cs)) | _ => .non) ?_
  simp!
  refine ⟨by rw [List.length_map]; exact h, fun d hd => ?_, ?_⟩
  · obtain ⟨c, _, rfl⟩ := List.mem_map.mp hd
    simp only [wipeE, List.foldr_cons, List.foldr_nil]
    simp!
  · rw [List.filter_eq_self.mpr (fun _ _ => rfl), List.map_map]
    simp only [Function.comp_def]
    rw [dAll_map]; simp!
theorem is_of_signs_no {d : D} {x : D} {T : String} (hT : tyD d = some T) (h1 : isaB T "str" = false) : F_is_of_signs [d, x] = .ok (.bl false) := by
  apply okF_of
  unfold F_is_of_signs d_is_of_signs
  have e : dIsa "str" d = some (.bl false) := by unfold dIsa; rw [hT]; simp [h1]
  simp! [↓e]
/-! draw -/
theorem taken {ns : List Int} {row : List D} {m : Int} (R : Row ns row) (h0 : 0 < m) (h1 : m < 1073741824) {Q : D → List D → Prop} (h : ∀ (r : Int) row', 0 ≤ r → r < m → Row ns row' → Q (.int r) row') : OkR (F_law_taken row [.int m]) Q := by
  obtain ⟨a, s, l, rfl, ha⟩ := R
  unfold F_law_taken d_law_taken
  by_cases hl : 0 < l
  · simp! [hl, h0, h1]
    exact h _ _ (Int.emod_nonneg _ (by omega)) (Int.emod_lt_of_pos _ h0) ⟨_, _, _, rfl, ha⟩
  · by_cases hc : (ns.length : Int) < a + 1
    · simp! [hl, h0, h1, hc]
      exact h _ _ (Int.emod_nonneg _ (by omega)) (Int.emod_lt_of_pos _ h0) ⟨_, _, _, rfl, by omega⟩
    · simp! [hl, h0, h1, hc]
      obtain ⟨x, hx, _⟩ := atI_ok ns (a + 1 - 1) (by omega) (by omega)
      simp! [hx]
      by_cases h8 : (1000000000000000000 : Int) ≤ x
      · simp! [h0, h1, h8]
        exact h _ _ (Int.emod_nonneg _ (by omega)) (Int.emod_lt_of_pos _ h0) ⟨_, _, _, rfl, by omega⟩
      · simp! [h0, h1, h8]
        exact h _ _ (Int.emod_nonneg _ (by omega)) (Int.emod_lt_of_pos _ h0) ⟨_, _, _, rfl, by omega⟩
theorem takenN {ns : List Int} {row : List D} {m : Int} (R : Row ns row) (h0 : 0 < m) (h1 : m < 1073741824) {Q : D → List D → Prop} (h : ∀ (r : Nat) row', (r : Int) < m → Row ns row' → Q (.int (r : Nat)) row') : OkR (F_law_taken row [.int m]) Q :=
  taken R h0 h1 fun r row' r0 r1 R' => by
    obtain ⟨n, rfl⟩ := Int.eq_ofNat_of_zero_le r0
    exact h n row' r1 R'
/-! pick -/
theorem pick {ns : List Int} {row : List D} {ds : List D} (R : Row ns row) (h0 : 0 < ds.length) (h1 : ds.length < 100000) {Q : D → List D → Prop} (h : ∀ d row', d ∈ ds → Row ns row' → Q d row') : OkR (F_law_pick row [.lst ds]) Q := by
  unfold F_law_pick d_law_pick
  simp!
  refine taken R (by omega) (by omega) fun r row' r0 r1 R' => ?_
  obtain ⟨x, hx, hm⟩ := atI_ok ds r r0 r1
  simp! [hx]
  exact h _ _ hm R'
/-! alike -/
theorem alike_seq {A : List D → FR} {ds : List D} (hl : ds.length ≤ 100000) (hA : ∀ x ∈ ds, A [x, x] = .ok (.bl true)) : denP 4 (d_law_alike A) [.lst ds, .lst ds] = .ok (.bl true) ∧ denP 4 (d_law_alike A) [.tup ds, .tup ds] = .ok (.bl true) := by
  have hsz : (100000 : Nat) ≤ sizeLine := by decide
  have hi : L3.inR (ds.length : Int) = true := inR_of (by omega) (by omega)
  have el : ∀ d ∈ irange 0 ds.length, ∃ (i : Nat) (x : D), d = .int (0 + i) ∧ atI ds (0 + i) = some x ∧ A [x, x] = .ok (.bl true) := fun d hd => by
    obtain ⟨i, hi, rfl⟩ := irange_mem hd
    obtain ⟨x, hx, hm⟩ := atI_ok ds (0 + (i : Int)) (by omega) (by omega)
    exact ⟨i, x, rfl, hx, hA x hm⟩
  constructor
  · apply okF_of; unfold d_law_alike; simp!
    refine Ok_Lc_pure (X := _) (fun _ => false) (fun d => d) ?_
    simp! [hi, Int.toNat_natCast, irange_length]
    refine ⟨Nat.le_trans hl hsz, fun d hd => ?_, ?_⟩
    · obtain ⟨i, x, rfl, hx, hxA⟩ := el d hd
      simp only [wipeE, List.foldr_cons, List.foldr_nil]
      simp! [hx, hxA]
    · rw [List.filter_eq_nil_iff.mpr (fun _ _ => Bool.false_ne_true), List.map_nil]
      simp!
  · apply okF_of; unfold d_law_alike; simp!
    refine Ok_Lc_pure (X := _) (fun _ => false) (fun d => d) ?_
    simp! [hi, Int.toNat_natCast, irange_length]
    refine ⟨Nat.le_trans hl hsz, fun d hd => ?_, ?_⟩
    · obtain ⟨i, x, rfl, hx, hxA⟩ := el d hd
      simp only [wipeE, List.foldr_cons, List.foldr_nil]
      simp! [hx, hxA]
    · rw [List.filter_eq_nil_iff.mpr (fun _ _ => Bool.false_ne_true), List.map_nil]
      simp!
theorem alike_non {A : List D → FR} : denP 4 (d_law_alike A) [.non, .non] = .ok (.bl true) := by
  apply okF_of; unfold d_law_alike; simp!
theorem alike_bl {A : List D → FR} (b : Bool) : denP 4 (d_law_alike A) [.bl b, .bl b] = .ok (.bl true) := by
  apply okF_of; unfold d_law_alike; simp!
theorem alike_int {A : List D → FR} (b : Int) : denP 4 (d_law_alike A) [.int b, .int b] = .ok (.bl true) := by
  apply okF_of; unfold d_law_alike; simp!
theorem alike_str {A : List D → FR} (b : List Nat) : denP 4 (d_law_alike A) [.str b, .str b] = .ok (.bl true) := by
  apply okF_of; unfold d_law_alike; simp!
theorem alike_dic0 {A : List D → FR} : denP 4 (d_law_alike A) [.dic [] [], .dic [] []] = .ok (.bl true) := by
  have e1 : dNe (.lst []) (.lst []) = some (.bl false) := rfl
  apply okF_of; unfold d_law_alike; simp! [e1]
  refine Ok_Lc_pure (X := _) (fun _ => false) (fun d => d) ?_
  simp!
  refine ⟨Nat.zero_le _, fun d hd => (by cases hd), ?_⟩
  simp only [List.filter_nil, List.map_nil]
  simp!
theorem alike_dic1 {A : List D → FR} {s : List Nat} {x : D} (hs : s.all (· < 0x110000) = true) (hA : A [x, x] = .ok (.bl true)) : denP 4 (d_law_alike A) [.dic [.str s] [x], .dic [.str s] [x]] = .ok (.bl true) := by
  have e1 : dNe (.lst [.str s]) (.lst [.str s]) = some (.bl false) := by
    have h1 : shp (.lst [.str s]) 64 = true := by
      show (s.all (· < 0x110000) && true) = true
      rw [hs]; rfl
    have h2 : dEqv (.lst [.str s]) (.lst [.str s]) = true := by
      show ((s == s) && true) = true
      simp
    unfold dNe
    show (if _ then _ else _) = _
    rw [if_pos ⟨h1, h1⟩, h2]; rfl
  apply okF_of; unfold d_law_alike; simp! [e1]
  refine Ok_Lc_pure (X := _) (fun _ => false) (fun d => d) ?_
  simp!
  refine ⟨by decide, fun d hd => ?_, ?_⟩
  · rw [List.mem_singleton.mp hd]
    simp! [hA]
  · rw [List.filter_eq_nil_iff.mpr (fun _ _ => Bool.false_ne_true), List.map_nil]
    simp!
theorem alike_same (n : Nat) : ∀ d : D, Pl n d → F_law_alike (n + 1) [d, d] = .ok (.bl true) := by
  induction n with
  | zero =>
    intro d h
    show denP 4 (d_law_alike (F_law_alike 0)) [d, d] = _
    cases d with
    | non => exact alike_non
    | bl b => exact alike_bl b
    | int i => exact alike_int i
    | str s => exact alike_str s
    | _ => simp [Pl] at h
  | succ n ih =>
    intro d h
    show denP 4 (d_law_alike (F_law_alike (n + 1))) [d, d] = _
    cases d with
    | non => exact alike_non
    | bl b => exact alike_bl b
    | int i => exact alike_int i
    | str s => exact alike_str s
    | lst ds => exact (alike_seq h.1 fun x hx => ih x (h.2 x hx)).1
    | tup ds => exact (alike_seq h.1 fun x hx => ih x (h.2 x hx)).2
    | dic ks xs =>
      rcases h with ⟨rfl, rfl⟩ | ⟨s, x, rfl, rfl, h, hs⟩
      · exact alike_dic0
      · exact alike_dic1 hs (ih x h)
    | _ => simp [Pl] at h
theorem alike8 {d : D} (h : Pl 7 d) : F_law_alike 8 [d, d] = .ok (.bl true) := alike_same 7 d h
/-! per -/
/-! coreof -/
/-! chr -/
theorem is_character_str (s : List Nat) (hz : s.length ≤ sizeLine) : F_is_character [.str s] = .ok (.bl ((s.all fun c => decide (c ∈ [35, 46])) && decide (1 ≤ s.length ∧ s.length ≤ 12))) := by
  apply okF_of
  unfold F_is_character d_is_character
  simp! [is_of_signs_str s [35, 46] hz, hz]
  split
  · rename_i h
    rw [h, Bool.true_and]
    split
    · rename_i h2
      congr 1
      rw [decide_eq_decide]; omega
    · rename_i h2
      rw [decide_eq_false]
      omega
  · rename_i h
    rw [Bool.not_eq_true] at h
    rw [h, Bool.false_and]
theorem is_character_no {d : D} {T : String} (hT : tyD d = some T) (h1 : isaB T "str" = false) : F_is_character [d] = .ok (.bl false) := by
  apply okF_of
  unfold F_is_character d_is_character
  simp! [is_of_signs_no (x := .str [35, 46]) hT h1]
theorem char_ok {c : List Nat} (h : IsChar c) : F_is_character [.str c] = .ok (.bl true) := by
  rw [is_character_str c (small_sz (by have := h.2.1; omega))]
  congr 2
  rw [Bool.and_eq_true, decide_eq_true_eq]
  exact ⟨List.all_eq_true.mpr fun x hx => by rcases h.2.2 x hx with e | e <;> subst e <;> decide, h.1, h.2.1⟩
/-! badchr -/
theorem bad_char {d : D} (h : d ∈ [.str [], .str (List.replicate 13 35), .non, .int 5, .lst [.str [35]], .str [35, 63], .str [63]]) : F_is_character [d] = .ok (.bl false) ∧ Pl 6 d := by
  simp only [List.mem_cons, List.not_mem_nil, or_false] at h
  rcases h with rfl | rfl | rfl | rfl | rfl | rfl | rfl
  · exact ⟨(is_character_str [] (small_sz (by decide))).trans (congrArg (fun b => FR.ok (D.bl b)) (by decide)), by simp [Pl]⟩
  · exact ⟨(is_character_str (List.replicate 13 35) (small_sz (by decide))).trans (congrArg (fun b => FR.ok (D.bl b)) (by decide)), by simp [Pl]⟩
  · exact ⟨is_character_no rfl (by decide), by simp [Pl]⟩
  · exact ⟨is_character_no rfl (by decide), by simp [Pl]⟩
  · exact ⟨is_character_no rfl (by decide), by simp [Pl]⟩
  · exact ⟨(is_character_str [35, 63] (small_sz (by decide))).trans (congrArg (fun b => FR.ok (D.bl b)) (by decide)), by simp [Pl]⟩
  · exact ⟨(is_character_str [63] (small_sz (by decide))).trans (congrArg (fun b => FR.ok (D.bl b)) (by decide)), by simp [Pl]⟩
/-! lawchr -/
theorem law_characterM {ns : List Int} {row : List D} {mo : Int} (hm0 : 0 < mo) (hm1 : mo ≤ 12) (R : Row ns row) {Q : D → List D → Prop} (h : ∀ c row', IsChar c → (c.length : Int) ≤ mo → Row ns row' → Q (.str c) row') : OkR (F_law_character row [.int mo]) Q := by
  unfold F_law_character d_law_character
  simp!
  refine taken R (by omega) (by omega) fun r row' r0 r1 R' => ?_
  simp!
  refine taken R' (by omega) (by omega) fun k row2 k0 k1 R2 => ?_
  simp!
  by_cases hk : k = 0
  · simp! [hk]
    refine taken R2 (by omega) (by omega) fun a row3 a0 a1 R3 => ?_
    have m1 : mulOkS 1 a = true := mulOkS_of (by omega) (by omega) (by omega)
    have m2 : mulOkS 1 (1 + r - a - 1) = true := mulOkS_of (by omega) (by omega) (by omega)
    have f1 := flat_rep a.toNat 46
    have f2 := flat_rep (1 + r - a - 1).toNat 46
    have z1 : (List.replicate a.toNat 46).length + 1 ≤ sizeLine := small_sz (by rw [List.length_replicate]; omega)
    have z2 : (List.replicate a.toNat 46 ++ [35]).length + (List.replicate (1 + r - a - 1).toNat 46).length ≤ sizeLine := small_sz (by rw [List.length_append, List.length_replicate, List.length_replicate]; simp only [List.length_singleton]; omega)
    simp! [m1, m2, f1, f2, z1, z2]
    have hL : (List.replicate a.toNat 46 ++ [35] ++ List.replicate (1 + r - a - 1).toNat 46).length = (1 + r).toNat := by
      rw [List.length_append, List.length_append, List.length_replicate, List.length_replicate]; simp only [List.length_singleton]; omega
    refine h _ _ ⟨?_, ?_, ?_⟩ ?_ R3
    · rw [hL]; omega
    · rw [hL]; omega
    · intro x hx
      rcases List.mem_append.mp hx with hx | hx
      · rcases List.mem_append.mp hx with hx | hx
        · exact .inr (List.mem_replicate.mp hx).2
        · exact .inl (List.mem_singleton.mp hx)
      · exact .inr (List.mem_replicate.mp hx).2
    · rw [hL]; omega
  · simp! [hk]
    refine Ok_Lc_inv (fun i ys e => ∃ (row : List D) (s : List Nat) (x : Option D), Row ns row ∧ e = [some (.lst row), some (.int mo), some (.int (1 + r)), some (.int k), none, none, x] ∧ ys = s.map (fun x => .str [x]) ∧ s.length = i ∧ ∀ x ∈ s, x = 35 ∨ x = 46) ?_
    have hr : L3.inR (1 + r) = true := inR_of (by omega) (by omega)
    simp! [hr, irange_length]
    refine ⟨small_sz (by omega), ⟨row2, [], none, R2, rfl, rfl, rfl, fun x hx => by cases hx⟩, ?_, ?_⟩
    · rintro i d ys e hd ⟨row3, s, x, R3, rfl, rfl, hl, hs⟩
      simp!
      refine taken R3 (by omega) (by omega) fun b row4 b0 b1 R4 => ?_
      have hx : ∃ y : Nat, atI [35, 46] b = some y ∧ (y = 35 ∨ y = 46) := by
        obtain ⟨y, hy, hm⟩ := atI_ok [35, 46] b b0 b1
        refine ⟨y, hy, ?_⟩
        simpa using hm
      obtain ⟨y, hy, hy2⟩ := hx
      have hz : szOk 2 := by decide
      simp! [hy, hz]
      refine ⟨row4, s ++ [y], _, R4, rfl, by rw [List.map_append]; rfl, by rw [List.length_append, hl]; rfl, fun z hz => ?_⟩
      rcases List.mem_append.mp hz with hz | hz
      · exact hs z hz
      · rw [List.mem_singleton.mp hz]; exact hy2
    · rintro ys e2 ⟨row3, s, x, R3, rfl, rfl, hl, hs⟩
      have hj := join_signs s (by omega)
      simp! [hj]
      by_cases hk1 : k = 1
      · by_cases hm : (1 + r) * 2 ≤ mo
        · have mu : mulOkS s.length 2 = true := mulOkS_of (by omega) (by omega) (by omega)
          simp! [hk1, hm, mu]
          have e2 : (List.replicate 2 s).flatten = s ++ s := by simp
          refine h _ _ ⟨?_, ?_, ?_⟩ ?_ R3
          · rw [e2, List.length_append]; omega
          · rw [e2, List.length_append]; omega
          · rw [e2]
            intro z hz
            rcases List.mem_append.mp hz with hz | hz
            · exact hs z hz
            · exact hs z hz
          · rw [e2, List.length_append]; omega
        · simp! [hk1, hm]
          exact h _ _ ⟨by omega, by omega, hs⟩ (by omega) R3
      · simp! [hk1]
        exact h _ _ ⟨by omega, by omega, hs⟩ (by omega) R3
theorem law_character {ns : List Int} {row : List D} (R : Row ns row) {Q : D → List D → Prop} (h : ∀ c row', IsChar c → Row ns row' → Q (.str c) row') : OkR (F_law_character row [.int 12]) Q :=
  law_characterM (by omega) (by omega) R fun c row' hc _ R' => h c row' hc R'
/-! lawcore -/
theorem law_core_spec {c : List Nat} (h0 : 0 < c.length) (h1 : c.length ≤ 12) : F_law_core [.str c] = .ok (.str (core c)) := by
  have hz : c.length ≤ sizeLine := small_sz (by omega)
  apply okF_ex2
  unfold F_law_core d_law_core
  have hr : L3.inR ((c.length : Int) + 1) = true := inR_of (by omega) (by omega)
  have hr1 : L3.inR 1 = true := inR_of (by omega) (by omega)
  simp! [hz, hr, hr1]
  refine Po_for_of (fun i e => (∀ q, 0 < q → q < 1 + i → ¬ IsPer c q) ∧ ∃ x, e = [some (.str c), x]) ⟨fun q h1 h2 => by omega, _, rfl⟩ (fun i d e hd hi => ?_) fun e he => ?_
  · obtain ⟨hq0, x, rfl⟩ := hi
    obtain ⟨hi, rfl⟩ := irange_get hd
    have hp : (0 : Int) < 1 + i := by omega
    have next : ¬ IsPer c (1 + i) → ∀ q, 0 < q → q < 1 + (i + 1) → ¬ IsPer c q := fun h q h1 h2 => by
      by_cases e : q = 1 + i
      · subst e; exact h
      · exact hq0 q h1 (by omega)
    by_cases hm : (c.length : Int) % (1 + i) = 0
    · have hb : (1 + (i : Int)) < 1073741824 := by omega
      have e : (1 + (i : Int)) = ((1 + i : Nat) : Int) := by omega
      have hq : ((c.length : Int) / (1 + i)) = ((c.length / (1 + i) : Nat) : Int) := by rw [e]; exact (Int.natCast_ediv _ _).symm
      have hle : c.length / (1 + i) ≤ c.length := Nat.div_le_self _ _
      have hmu : mulOkS (L3.cutD c none (some (1 + (i : Int)))).length ((c.length : Int) / (1 + i)) = true := by
        rw [hq, e, cutD_to]
        generalize c.length / (1 + i) = q at hle
        exact mulOkS_of (by rw [List.length_take]; omega) (by omega) (by omega)
      have hm2 : c.length % (1 + i) = 0 := by
        have : ((c.length % (1 + i) : Nat) : Int) = 0 := by rw [← hm, e]; exact Int.natCast_emod _ _
        exact_mod_cast this
      simp! [hp, hm, hz, hb, hmu]
      split
      · rename_i hf
        rw [hq, e, cutD_to, Int.toNat_natCast] at hf
        have hpe := per_of ⟨by omega, by omega, hm2, hf⟩ fun q hq => (by
          by_cases h0 : 0 < q
          · exact hq0 q h0 hq
          · exact fun z => h0 z.1 : ¬ IsPer c q)
        rw [e, cutD_to]
        show _ = D.str (c.take (per c))
        rw [hpe]
      · rename_i hf
        refine ⟨next fun z => hf ?_, _, rfl⟩
        rw [hq, e, cutD_to, Int.toNat_natCast]
        exact z.2.2.2
    · simp! [hp, hm, hz]
      refine ⟨next fun z => hm ?_, _, rfl⟩
      have e : (1 + (i : Int)) = ((1 + i : Nat) : Int) := by omega
      rw [e, ← Int.natCast_emod, z.2.2.1]; rfl
  · obtain ⟨hq0, x, rfl⟩ := he
    exact absurd (IsPer.full h0) (hq0 c.length h0 (by rw [irange_length]; omega))
/-! lawturns -/
theorem law_turns_spec {c : List Nat} (h0 : 0 < c.length) (h1 : c.length ≤ 12) : F_law_turns [.str c] = .ok (.lst ((turns c).map .str)) := by
  have hc := core_len h0
  have hp := per_le h0
  have hz : (core c).length ≤ sizeLine := small_sz (by omega)
  have hr : L3.inR ((core c).length : Int) = true := inR_of (by omega) (by omega)
  apply okF_of
  unfold F_law_turns d_law_turns
  simp! [law_core_spec h0 h1]
  refine Ok_Lc_pure (fun _ => true) (fun d => match d with | .int k => .str (turn (core c) k.toNat) | _ => .non) ?_
  simp! [hz, hr, irange_length, Int.toNat_natCast]
  refine ⟨fun d hd => ?_, ?_⟩
  · obtain ⟨i, hi, rfl⟩ := irange_mem hd
    have e0 : (0 : Int) + (i : Int) = (i : Nat) := by omega
    have hs : (L3.cutD (core c) (some ((i : Nat) : Int)) none).length + (L3.cutD (core c) none (some ((i : Nat) : Int))).length ≤ sizeLine := small_sz (by
      rw [cutD_from, cutD_to, List.length_drop, List.length_take]; omega)
    simp! [e0, hz, hs]
    rw [cutD_from, cutD_to, Int.toNat_natCast]
    rfl
  · rw [List.filter_eq_self.mpr (fun _ _ => rfl), irange0, List.map_map]
    unfold turns
    rw [List.map_map]
    rfl
/-! turnchar -/
theorem turns_char {c : List Nat} (h : IsChar c) : ∀ t ∈ turns c, IsChar t := fun t ht => by
  obtain ⟨i, hi, rfl⟩ := List.mem_map.mp ht
  have hc := core_char h
  have hi := List.mem_range.mp hi
  have hl : (turn (core c) i).length = (core c).length := by unfold turn; rw [List.length_append, List.length_drop, List.length_take]; omega
  refine ⟨by rw [hl]; exact hc.1, by rw [hl]; exact hc.2.1, fun x hx => ?_⟩
  unfold turn at hx
  rcases List.mem_append.mp hx with hx | hx
  · exact hc.2.2 x (List.mem_of_mem_drop hx)
  · exact hc.2.2 x (List.mem_of_mem_take hx)
theorem turns_len {c : List Nat} (h : IsChar c) : ∀ t ∈ turns c, t.length ≤ c.length := fun t ht => by
  obtain ⟨i, hi, rfl⟩ := List.mem_map.mp ht
  have hi := List.mem_range.mp hi
  have := core_len h.1
  have := per_le h.1
  unfold turn; rw [List.length_append, List.length_drop, List.length_take]; omega
/-! minturn -/
theorem dMinG_strs {l : List (List Nat)} (h : l ≠ []) : dMinG (.lst (l.map .str)) = some (.str ((minS l).getD [])) := by
  cases l with
  | nil => exact absurd rfl h
  | cons x r =>
    rw [List.map_cons, dMinG_str]
    have := strsOf_map (x :: r) fun y => y
    rw [List.map_cons] at this
    rw [this, List.map_id']
    rfl
/-- the least turning -/
def lt (c : List Nat) : List Nat := (minS (turns c)).getD []
theorem turns_ne {c : List Nat} (h0 : 0 < c.length) : turns c ≠ [] := by
  have h1 := core_len h0
  have h2 := per_pos h0
  unfold turns
  intro h
  have h3 := congrArg List.length h
  rw [List.length_map, List.length_range, h1] at h3
  simp at h3
  omega
/-! names -/
/-! names -/
def IsName (s : List Nat) : Prop := 1 ≤ s.length ∧ s.length ≤ 8 ∧ ∀ x ∈ s, 97 ≤ x ∧ x ≤ 122
theorem all_flat (l : List (List Nat)) : (l.map D.str).all L3.flatD = true := by
  rw [List.all_eq_true]; intro x hx; obtain ⟨s, _, rfl⟩ := List.mem_map.mp hx; rfl
theorem any_strs (s : List Nat) (l : List (List Nat)) : ((l.map D.str).any fun y => dEqv y (.str s)) = decide (s ∈ l) := by
  induction l with
  | nil => rfl
  | cons x r ih =>
    rw [List.map_cons, List.any_cons, ih]
    have : dEqv (.str x) (.str s) = decide (x = s) := by
      show (x == s) = _
      rw [Bool.eq_iff_iff, beq_iff_eq, decide_eq_true_eq]
    rw [this, Bool.eq_iff_iff, Bool.or_eq_true, decide_eq_true_eq, decide_eq_true_eq, decide_eq_true_eq, List.mem_cons]
    constructor
    · rintro (h | h)
      · exact .inl h.symm
      · exact .inr h
    · rintro (h | h)
      · exact .inl h.symm
      · exact .inr h
theorem inB_strs (s : List Nat) (l : List (List Nat)) : inB (.str s) (.lst (l.map .str)) = some (decide (s ∈ l)) := by
  show (if _ then _ else _) = _
  rw [if_pos ⟨rfl, all_flat l⟩, any_strs]
theorem inB_strsT (s : List Nat) (l : List (List Nat)) : inB (.str s) (.tup (l.map .str)) = some (decide (s ∈ l)) := by
  show (if _ then _ else _) = _
  rw [if_pos ⟨rfl, all_flat l⟩, any_strs]
theorem dIn_strs (s : List Nat) (l : List (List Nat)) : dIn (.str s) (.lst (l.map .str)) = some (.bl (decide (s ∈ l))) := by unfold dIn; rw [inB_strs]; rfl
theorem dNotIn_strs (s : List Nat) (l : List (List Nat)) : dNotIn (.str s) (.lst (l.map .str)) = some (.bl (!decide (s ∈ l))) := by unfold dNotIn; rw [inB_strs]; rfl
theorem dIn_strsT (s : List Nat) (l : List (List Nat)) : dIn (.str s) (.tup (l.map .str)) = some (.bl (decide (s ∈ l))) := by unfold dIn; rw [inB_strsT]; rfl
theorem dNotIn_strsT (s : List Nat) (l : List (List Nat)) : dNotIn (.str s) (.tup (l.map .str)) = some (.bl (!decide (s ∈ l))) := by unfold dNotIn; rw [inB_strsT]; rfl
theorem len_sub {α : Type} [DecidableEq α] : ∀ (l m : List α), l.Nodup → (∀ x ∈ l, x ∈ m) → l.length ≤ m.length
  | [], m, _, _ => Nat.zero_le _
  | x :: r, m, hn, hs => by
    have hx := hs x (.head _)
    obtain ⟨h1, h2⟩ := List.nodup_cons.mp hn
    have := len_sub r (m.erase x) h2 fun y hy => by
      have hne : y ≠ x := fun e => h1 (by rw [← e]; exact hy)
      rw [List.mem_erase_of_ne hne]
      exact hs y (.tail _ hy)
    rw [List.length_erase_of_mem hx] at this
    have : 0 < m.length := List.length_pos_of_mem hx
    rw [List.length_cons]
    omega
theorem law_name_spec {ns : List Int} {row : List D} (R : Row ns row) {Q : D → List D → Prop} (h : ∀ s row', IsName s → Row ns row' → Q (.str s) row') : OkR (F_law_name row []) Q := by
  unfold F_law_name d_law_name
  simp!
  refine taken R (by omega) (by omega) fun r row1 r0 r1 R1 => ?_
  obtain ⟨x, hx, hm⟩ := atI_ok [D.int 1, .int 1, .int 2, .int 3, .int 5, .int 8] r r0 (by simpa using r1)
  obtain ⟨m, rfl, hm1, hm8⟩ : ∃ m : Nat, x = .int (m : Nat) ∧ 1 ≤ m ∧ m ≤ 8 := by
    simp only [List.mem_cons, List.not_mem_nil, or_false] at hm
    rcases hm with rfl | rfl | rfl | rfl | rfl | rfl
    · exact ⟨1, rfl, by omega, by omega⟩
    · exact ⟨1, rfl, by omega, by omega⟩
    · exact ⟨2, rfl, by omega, by omega⟩
    · exact ⟨3, rfl, by omega, by omega⟩
    · exact ⟨5, rfl, by omega, by omega⟩
    · exact ⟨8, rfl, by omega, by omega⟩
  clear hm
  have hr : L3.inR ((m : Nat) : Int) = true := inR_of (by omega) (by omega)
  simp! [hx]
  refine Ok_Lc_inv (fun i ys e => ∃ (row : List D) (s : List Nat) (x : Option D), Row ns row ∧ e = [some (.lst row), some (.int (m : Nat)), x] ∧ ys = s.map (fun x => .str [x]) ∧ s.length = i ∧ ∀ x ∈ s, 97 ≤ x ∧ x ≤ 122) ?_
  simp! [hr, irange_length, Int.toNat_natCast]
  refine ⟨small_sz (by omega), ⟨row1, [], none, R1, rfl, rfl, rfl, fun x hx => by cases hx⟩, ?_, ?_⟩
  · rintro i d ys e hd ⟨row3, s, x, R3, rfl, rfl, hl, hs⟩
    simp!
    refine taken R3 (by omega) (by omega) fun b row4 b0 b1 R4 => ?_
    obtain ⟨y, hy, hm⟩ := atI_ok [97, 98, 99, 100, 101, 102, 103, 104, 105, 106, 107, 108, 109, 110, 111, 112, 113, 114, 115, 116, 117, 118, 119, 120, 121, 122] b b0 (by simpa using b1)
    have hyy : 97 ≤ y ∧ y ≤ 122 := by
      simp only [List.mem_cons, List.not_mem_nil, or_false] at hm
      omega
    have hz : szOk 26 := by decide
    simp! [hy, hz]
    refine ⟨row4, s ++ [y], _, R4, rfl, by rw [List.map_append]; rfl, by rw [List.length_append, hl]; rfl, fun z hz => ?_⟩
    rcases List.mem_append.mp hz with hz | hz
    · exact hs z hz
    · rw [List.mem_singleton.mp hz]; exact hyy
  · rintro ys e2 ⟨row3, s, x, R3, rfl, rfl, hl, hs⟩
    have hj := join_signs s (by omega)
    simp! [hj]
    exact h _ _ ⟨by omega, by omega, hs⟩ R3
theorem law_names_spec {ns : List Int} {row : List D} (R : Row ns row) (n : Nat) (hn : n ≤ 20) {Q : D → List D → Prop} (h : ∀ (l : List (List Nat)) row', l.length = n → (∀ s ∈ l, IsName s) → l.Nodup → Row ns row' → Q (.lst (l.map .str)) row') : OkR (F_law_names row [.int (n : Nat)]) Q := by
  have hr : L3.inR ((n : Nat) : Int) = true := inR_of (by omega) (by omega)
  unfold F_law_names d_law_names
  simp! [hr]
  refine Po_for_of (fun i e => ∃ (row : List D) (l : List (List Nat)) (x3 x4 x5 : Option D), l.length = i ∧ (∀ s ∈ l, IsName s) ∧ l.Nodup ∧ Row ns row ∧ e = [some (.lst row), some (.int (n : Nat)), some (.lst (l.map .str)), x3, x4, x5]) ⟨row, [], _, _, _, rfl, (fun s hs => by cases hs), List.nodup_nil, R, rfl⟩ ?_ ?_
  · rintro i d e hd ⟨row1, l, x3, x4, x5, hl, hs, hnd, R1, rfl⟩
    obtain ⟨hi, rfl⟩ := irange_get hd
    have hi : i < n := by simpa using hi
    simp_all!
    refine law_name_spec R1 fun s row2 hsn R2 => ?_
    simp_all!
    have hsz : (l.map D.str).length < sizeLine := by rw [List.length_map]; have := small_sz (show 100 ≤ 1000 by omega); omega
    refine Po_sq_join (fun e => ∃ (t : List Nat) (x5 : Option D), IsName t ∧ ¬ t ∈ l ∧ e = [some (.lst row2), some (.int (n : Nat)), some (.lst (l.map .str)), some (.int (0 + (i : Int))), some (.str t), x5]) ?_ ?_
    · by_cases hin : s ∈ l
      · have e1 := dIn_strs s l
        rw [decide_eq_true hin] at e1
        simp! [e1]
        refine Ok_Lc_pure (fun d => match d with | .str t => !decide (t ∈ l) | _ => false) (fun d => d) ?_
        simp!
        refine ⟨small_sz (by decide), fun d hd => ?_, ?_⟩
        · obtain ⟨c, hc⟩ : ∃ c : Nat, d = .str [c] := by
            simp only [List.mem_cons, List.not_mem_nil, or_false] at hd
            rcases hd with rfl | rfl | rfl | rfl | rfl | rfl | rfl | rfl | rfl | rfl | rfl | rfl | rfl | rfl | rfl | rfl | rfl | rfl | rfl | rfl | rfl | rfl | rfl | rfl | rfl | rfl <;> exact ⟨_, rfl⟩
          subst hc
          simp! [dNotIn_strs]
          split <;> trivial
        · have hx : ∃ (c : Nat) (r : List D), (97 ≤ c ∧ c ≤ 122) ∧ ¬ [c] ∈ l ∧ (([97, 98, 99, 100, 101, 102, 103, 104, 105, 106, 107, 108, 109, 110, 111, 112, 113, 114, 115, 116, 117, 118, 119, 120, 121, 122].map fun c => D.str [c]).filter (fun d => match d with | .str t => !decide (t ∈ l) | _ => false)).map (fun d => d) = .str [c] :: r := by
            rw [List.map_id', List.filter_map]
            have q : ((fun d => match d with | D.str t => !decide (t ∈ l) | _ => false) ∘ fun c : Nat => D.str [c]) = fun c : Nat => !decide ([c] ∈ l) := rfl
            rw [q]
            cases hf : [97, 98, 99, 100, 101, 102, 103, 104, 105, 106, 107, 108, 109, 110, 111, 112, 113, 114, 115, 116, 117, 118, 119, 120, 121, 122].filter fun c : Nat => !decide ([c] ∈ l) with
            | nil =>
              exfalso
              rw [List.filter_eq_nil_iff] at hf
              have := len_sub ([97, 98, 99, 100, 101, 102, 103, 104, 105, 106, 107, 108, 109, 110, 111, 112, 113, 114, 115, 116, 117, 118, 119, 120, 121, 122].map fun c : Nat => [c]) l (by decide) fun x hx => by
                obtain ⟨c, hc, rfl⟩ := List.mem_map.mp hx
                have := hf c hc
                simpa using this
              rw [List.length_map] at this
              have h26 : ([97, 98, 99, 100, 101, 102, 103, 104, 105, 106, 107, 108, 109, 110, 111, 112, 113, 114, 115, 116, 117, 118, 119, 120, 121, 122] : List Nat).length = 26 := rfl
              omega
            | cons c r =>
              have hm : c ∈ [97, 98, 99, 100, 101, 102, 103, 104, 105, 106, 107, 108, 109, 110, 111, 112, 113, 114, 115, 116, 117, 118, 119, 120, 121, 122].filter fun c : Nat => !decide ([c] ∈ l) := by rw [hf]; exact .head _
              obtain ⟨m1, m2⟩ := List.mem_filter.mp hm
              refine ⟨c, r.map fun c => D.str [c], ?_, by simpa using m2, rfl⟩
              simp only [List.mem_cons, List.not_mem_nil, or_false] at m1
              omega
          obtain ⟨c, r, hc, hcl, he⟩ := hx
          have he' := he
          simp only [List.map_cons, List.map_nil] at he'
          simp! [he']
          exact ⟨[c], _, ⟨by simp, by simp, fun x hx => by rw [List.mem_singleton.mp hx]; exact hc⟩, hcl, rfl⟩
      · have e1 := dIn_strs s l
        rw [decide_eq_false hin] at e1
        simp! [e1]
        exact ⟨s, _, hsn, hin, rfl⟩
    rintro e ⟨t, y5, ht, htl, rfl⟩
    have e9 : muAppend (l.map .str) [D.str t] = some (l.map .str ++ [.str t]) := if_pos hsz
    simp! [e9]
    refine ⟨row2, l ++ [t], _, _, _, by rw [List.length_append, hl]; rfl, fun z hz => ?_, ?_, R2, by rw [List.map_append]; rfl⟩
    · rcases List.mem_append.mp hz with hz | hz
      · exact hs z hz
      · rw [List.mem_singleton.mp hz]; exact ht
    · rw [List.nodup_append]
      exact ⟨hnd, by simp, fun a ha b hb => by rw [List.mem_singleton.mp hb]; exact fun e => htl (e ▸ ha)⟩
  · rintro e ⟨row1, l, x3, x4, x5, hl, hs, hnd, R1, rfl⟩
    rw [irange_length] at hl
    simp!
    exact h l row1 (by simpa using hl) hs hnd R1
/-! coast -/
/-! coasts -/
def lD (p : List Nat × List Nat) : D := .tup [.str p.1, .str p.2]
def IsCoast (L : List (List Nat × List Nat)) : Prop := 0 < L.length ∧ L.length ≤ 12 ∧ (∀ p ∈ L, IsName p.1 ∧ IsChar p.2) ∧ (L.map (·.1)).Nodup
theorem shp_name {s : List Nat} (h : IsName s) {n : Nat} : shp (.str s) n = true := shp_str (List.all_eq_true.mpr fun x hx => by have := h.2.2 x hx; simp; omega)
theorem shp_char {s : List Nat} (h : IsChar s) {n : Nat} : shp (.str s) n = true := shp_str (List.all_eq_true.mpr fun x hx => by rcases h.2.2 x hx with rfl | rfl <;> decide)
theorem shp_lD {p : List Nat × List Nat} (h1 : IsName p.1) (h2 : IsChar p.2) {n : Nat} : shp (lD p) (n + 1) = true := by
  show (shp (.str p.1) n && (shp (.str p.2) n && true)) = true
  rw [shp_name h1, shp_char h2]; rfl
theorem pickQ {ns : List Int} {row : List D} {ds : List D} (R : Row ns row) (h0 : 0 < ds.length) (h1 : ds.length < 100000) {Q : D → List D → List D → Prop} (h : ∀ d row', d ∈ ds → Row ns row' → Q d row' ds) : OkQ (F_law_pickQ row ds []) Q := by
  unfold F_law_pickQ d_law_pickQ
  simp!
  refine taken R (by omega) (by omega) fun r row' r0 r1 R' => ?_
  obtain ⟨x, hx, hm⟩ := atI_ok ds r r0 r1
  simp! [hx]
  exact h _ _ hm R'
theorem law_coast_spec {ns : List Int} {row : List D} (R : Row ns row) (k m : Nat) (hk0 : 0 < k) (hk : k ≤ 12) (hm0 : 0 < m) (hm : m ≤ 12) {Q : D → List D → Prop} (h : ∀ (L : List (List Nat × List Nat)) row', IsCoast L → L.length ≤ k → (∀ p ∈ L, p.2.length ≤ m) → Row ns row' → Q (.lst (L.map lD)) row') : OkR (F_law_coast row [.int (k : Nat), .int (m : Nat)]) Q := by
  unfold F_law_coast d_law_coast
  simp_all!
  have k0 : (0 : Int) < (k : Nat) := by omega
  have k1 : ((k : Nat) : Int) < 1073741824 := by omega
  refine takenN R k0 k1 fun r row1 hr R1 => ?_
  simp_all!
  obtain ⟨n, hn⟩ : ∃ n : Nat, n = 1 + r := ⟨_, rfl⟩
  have e1 : (1 : Int) + (r : Nat) = (n : Int) := by omega
  simp_all! [e1]
  refine law_names_spec R1 n (by omega) fun l row2 hl hs hnd R2 => ?_
  simp_all!
  refine Po_for_of (fun i e => ∃ (row : List D) (L : List (List Nat × List Nat)) (x4 x5 : Option D), L.map (·.1) = l.take i ∧ (∀ p ∈ L, IsChar p.2 ∧ p.2.length ≤ m) ∧ Row ns row ∧ e = [some (.lst row), some (.int (k : Nat)), some (.int (m : Nat)), some (.lst (L.map lD)), x4, x5]) ⟨row2, [], _, _, rfl, (fun s hs => by cases hs), R2, rfl⟩ ?_ ?_
  · rintro i d e hd ⟨row3, L, x4, x5, hL, hc, R3, rfl⟩
    rw [List.getElem?_map] at hd
    obtain ⟨s, hs1, rfl⟩ := Option.map_eq_some_iff.mp hd
    have hi := (List.getElem?_eq_some_iff.mp hs1).1
    have hLl : L.length = i := by
      have := congrArg List.length hL
      rw [List.length_map, List.length_take] at this
      omega
    have ht : l.take (i + 1) = l.take i ++ [s] := by
      rw [List.take_succ_eq_append_getElem hi]
      have := (List.getElem?_eq_some_iff.mp hs1).2
      rw [this]
    have hn : ∀ p ∈ L, IsName p.1 := fun p hp => hs p.1 (List.mem_of_mem_take (hL ▸ List.mem_map_of_mem hp : p.1 ∈ l.take i))
    simp_all!
    refine law_characterM (by omega) (by omega) R3 fun c row4 hcc hcl R4 => ?_
    simp_all!
    refine Po_sq_join (fun e => ∃ (row : List D) (c : List Nat), IsChar c ∧ c.length ≤ m ∧ Row ns row ∧ e = [some (.lst row), some (.int (k : Nat)), some (.int (m : Nat)), some (.lst (L.map lD)), some (.str s), some (.str c)]) ?_ ?_
    · have ne := dNe_lnil (xs := L.map lD) fun d hd => by
        obtain ⟨p, hp, rfl⟩ := List.mem_map.mp hd
        exact shp_lD (hn p hp) (hc p hp).1
      by_cases h0 : L = []
      · have ie : (L.map lD).isEmpty = true := by rw [h0]; rfl
        rw [ie] at ne
        simp! [ne]
        exact ⟨_, _, hcc, by omega, R4, rfl⟩
      · have ie : (L.map lD).isEmpty = false := by
          rw [List.isEmpty_eq_false_iff]
          exact fun h => h0 (List.map_eq_nil_iff.mp h)
        rw [ie] at ne
        simp! [ne]
        refine takenN R4 (by omega) (by omega) fun a row5 ha R5 => ?_
        by_cases ha0 : a = 0
        · have hp0 : 0 < (L.map lD).length ∧ (L.map lD).length < 100000 := by
            rw [List.length_map]
            refine ⟨List.length_pos_iff.mpr h0, by omega⟩
          simp! [ha0]
          refine pickQ R5 hp0.1 hp0.2 fun d row6 hd R6 => ?_
          obtain ⟨p, hp, rfl⟩ := List.mem_map.mp hd
          obtain ⟨pc, pl⟩ := hc p hp
          have tl : 0 < ((turns p.2).map D.str).length ∧ ((turns p.2).map D.str).length < 100000 := by
            have hk0 := core_char pc
            unfold turns; rw [List.length_map, List.length_map, List.length_range]; have := hk0.1; have := hk0.2.1; omega
          have e2 : lD p = .tup [.str p.1, .str p.2] := rfl
          rw [e2]
          simp! [law_turns_spec pc.1 pc.2.1]
          refine pick R6 tl.1 tl.2 fun d row7 hd R7 => ?_
          obtain ⟨u, hu, rfl⟩ := List.mem_map.mp hd
          exact ⟨_, u, turns_char pc u hu, Nat.le_trans (turns_len pc u hu) pl, R7, rfl⟩
        · have ha' : ¬ ((a : Nat) : Int) = 0 := by omega
          simp! [ha']
          exact ⟨_, _, hcc, by omega, R5, rfl⟩
    rintro e ⟨row5, c2, hc2, hc2l, R5, rfl⟩
    have hsz : (L.map lD).length < sizeLine := by rw [List.length_map]; have := small_sz (show 100 ≤ 1000 by omega); omega
    have e9 : muAppend (L.map lD) [D.tup [.str s, .str c2]] = some (L.map lD ++ [.tup [.str s, .str c2]]) := if_pos hsz
    simp! [e9]
    refine ⟨row5, L ++ [(s, c2)], _, _, by rw [List.map_append, hL, ht]; rfl, fun p hp => ?_, R5, by rw [List.map_append]; rfl⟩
    rcases List.mem_append.mp hp with hp | hp
    · exact hc p hp
    · rw [List.mem_singleton.mp hp]; exact ⟨hc2, hc2l⟩
  · rintro e ⟨row3, L, x4, x5, hL, hc, R3, rfl⟩
    rw [List.length_map, List.take_length] at hL
    simp!
    have hLl : L.length = n := by rw [← hl, ← hL, List.length_map]
    refine h L row3 ⟨by omega, by omega, fun p hp => ⟨hs p.1 (hL ▸ List.mem_map_of_mem hp), (hc p hp).1⟩, by rw [hL]; exact hnd⟩ (by omega) (fun p hp => (hc p hp).2) R3
/-! the coast itself -/
def coastD (L : List (List Nat × List Nat)) : D := .ins "Coast" ["lights", "names"] [.tup (L.map lD), .tup (L.map fun p => .str p.1)]
theorem is_name_spec {s : List Nat} (h : IsName s) : F_is_name [.str s] = .ok (.bl true) := by
  have hz := small_sz (show s.length ≤ 1000 by have := h.2.1; omega)
  have h1 : (1 : Int) ≤ (s.length : Nat) := by have := h.1; omega
  have h2 : ((s.length : Nat) : Int) ≤ 8 := by have := h.2.1; omega
  apply okF_of
  unfold F_is_name d_is_name
  simp! [hz, h1, h2]
  refine Ok_Lc_pure (fun _ => true) (fun _ => .bl true) ?_
  simp!
  refine ⟨by rw [List.length_map]; exact hz, fun d hd => ?_, ?_⟩
  · obtain ⟨c, hc, rfl⟩ := List.mem_map.mp hd
    have := h.2.2 c hc
    have e : decide (c ∈ [97, 98, 99, 100, 101, 102, 103, 104, 105, 106, 107, 108, 109, 110, 111, 112, 113, 114, 115, 116, 117, 118, 119, 120, 121, 122]) = true := by
      rw [decide_eq_true_eq]
      simp only [List.mem_cons, List.not_mem_nil, or_false]
      omega
    simp! [e]
  · rw [List.filter_eq_self.mpr (fun _ _ => rfl), List.map_map]
    have := dAll_map s fun _ => true
    have e2 : s.map ((fun _ => D.bl true) ∘ fun c => D.str [c]) = s.map fun _ => D.bl true := rfl
    rw [e2]
    have e3 : (s.all fun _ => true) = true := by rw [List.all_eq_true]; intros; rfl
    rw [e3] at this
    simp! [this]
theorem str_ne1 : (("lights" : Str) = "names") = False := by
  refine eq_false fun h => ?_
  exact absurd h (by decide +kernel)
theorem coast_init_spec {L : List (List Nat × List Nat)} (h : IsCoast L) : F_Coast_init [.lst (L.map lD)] = .ok (coastD L) := by
  apply okF_ex2
  unfold F_Coast_init d_Coast_init
  have hz : (L.map lD).length ≤ sizeLine := small_sz (by rw [List.length_map]; have := h.2.1; omega)
  have e0 : F_is_row [.lst (L.map lD)] = .ok (.bl true) := by
    apply okF_of
    unfold F_is_row d_is_row
    simp!
  have h1 : (1 : Int) ≤ ((L.map lD).length : Nat) := by rw [List.length_map]; have := h.1; omega
  have h2 : (((L.map lD).length : Nat) : Int) ≤ 12 := by rw [List.length_map]; have := h.2.1; omega
  simp! [e0, hz, h1, h2]
  refine Po_for_of (fun i e => ∃ x3 x4 : Option D, e = [some (.ins "Coast" [] []), some (.lst (L.map lD)), some (.lst ((L.take i).map fun p => D.str p.1)), x3, x4]) ⟨_, _, rfl⟩ ?_ ?_
  · rintro i d e hd ⟨x3, x4, rfl⟩
    obtain ⟨x, hx, rfl⟩ := enumD_get hd
    rw [List.getElem?_map] at hx
    obtain ⟨p, hp, rfl⟩ := Option.map_eq_some_iff.mp hx
    have hi := (List.getElem?_eq_some_iff.mp hp).1
    have hpm := List.mem_of_getElem? hp
    obtain ⟨q1, q2⟩ := h.2.2.1 p hpm
    have ht : L.take (i + 1) = L.take i ++ [p] := by
      rw [List.take_succ_eq_append_getElem hi]
      have := (List.getElem?_eq_some_iff.mp hp).2
      rw [this]
    have hnot : ¬ p.1 ∈ (L.take i).map (·.1) := fun hh => by
      have := h.2.2.2.sublist ((List.take_sublist (i + 1) L).map (·.1))
      rw [ht, List.map_append, List.nodup_append] at this
      exact this.2.2 p.1 hh p.1 (.head _) rfl
    have e1 := dIn_strs p.1 ((L.take i).map (·.1))
    rw [decide_eq_false hnot, List.map_map] at e1
    have e1' : dIn (.str p.1) (.lst ((L.take i).map fun p => D.str p.1)) = some (.bl false) := e1
    have e2 : F_is_tuple_of [.tup [.str p.1, .str p.2], .int 2] = .ok (.bl true) := by
      have hz : 2 ≤ sizeLine := small_sz (by omega)
      apply okF_of
      unfold F_is_tuple_of d_is_tuple_of
      simp! [hz]
      rfl
    have hl : lD p = .tup [.str p.1, .str p.2] := rfl
    have hsz : ((L.take i).map fun p => D.str p.1).length < sizeLine := by
      rw [List.length_map, List.length_take]
      have := small_sz (show 100 ≤ 1000 by omega)
      have := h.2.1
      omega
    have e9 : muAppend ((L.take i).map fun p => D.str p.1) [D.str p.1] = some (((L.take i).map fun p => D.str p.1) ++ [.str p.1]) := if_pos hsz
    rw [hl]
    simp! [e2, is_name_spec q1, e1', char_ok q2, e9]
    rw [ht, List.map_append]
    exact ⟨_, _, rfl⟩
  · rintro e ⟨x3, x4, rfl⟩
    rw [enumD_len, List.length_map, List.take_length]
    simp! [str_ne1]
    rfl
/-! chwords -/
/-! ### the words of a character -/
def dstr (n : Nat) : List Nat := ((toString (n : Int) : String) : Str).cps.toList
def wd (c : List Nat) (b k : Nat) : List Nat := (if c.getD b 0 = 35 then [76] else [68]) ++ dstr (k - b)
def stp (c : List Nat) (s : List (List Nat) × Nat) (k : Nat) : List (List Nat) × Nat := if k = c.length ∨ c.getD k 0 ≠ c.getD s.2 0 then (s.1 ++ [wd c s.2 k], k) else s
def fw (c : List Nat) : Nat → List (List Nat) × Nat
  | 0 => ([], 0)
  | i + 1 => stp c (fw c i) (i + 1)
def tx (c : List Nat) : List Nat := joinD [32] (fw c c.length).1
def Sg (c : List Nat) : Prop := c.length ≤ 12 ∧ ∀ x ∈ c, x = 35 ∨ x = 46
theorem fw_le (c : List Nat) : ∀ i, (fw c i).2 ≤ i ∧ (fw c i).1.length ≤ i
  | 0 => ⟨Nat.le_refl _, Nat.le_refl _⟩
  | i + 1 => by
    obtain ⟨h1, h2⟩ := fw_le c i
    show (stp c (fw c i) (i + 1)).2 ≤ _ ∧ (stp c (fw c i) (i + 1)).1.length ≤ _
    unfold stp
    split
    · exact ⟨Nat.le_refl _, by rw [List.length_append]; show _ + 1 ≤ _; omega⟩
    · exact ⟨by omega, by omega⟩
theorem dstr_len {n : Nat} (h : n ≤ 12) : (dstr n).length ≤ 2 := by
  have : ∀ n, n ≤ 12 → (dstr n).length ≤ 2 := by decide +kernel
  exact this n h
theorem strI_nat {n : Nat} (h : n ≤ 12) : dStrI (.int (n : Nat)) = some (.str (dstr n)) := if_pos (by omega)
theorem fw_words (c : List Nat) (hc : c.length ≤ 12) : ∀ i, i ≤ c.length → ∀ w ∈ (fw c i).1, w.length ≤ 3
  | 0, _, w, h => by cases h
  | i + 1, hi, w, h => by
    have ih := fw_words c hc i (by omega)
    have h : w ∈ (stp c (fw c i) (i + 1)).1 := h
    unfold stp at h
    split at h
    · rcases List.mem_append.mp h with h | h
      · exact ih w h
      · rw [List.mem_singleton.mp h]
        unfold wd
        rw [List.length_append]
        have := dstr_len (n := i + 1 - (fw c i).2) (by omega)
        split <;> simp <;> omega
    · exact ih w h
theorem sum3 : ∀ {l : List (List Nat)}, (∀ c ∈ l, c.length ≤ 3) → (l.map List.length).sum ≤ 3 * l.length
  | [], _ => by simp
  | c :: l, h => by
    have := sum3 (l := l) fun c hc => h c (.tail _ hc)
    have := h c (.head _)
    rw [List.map_cons, List.sum_cons, List.length_cons]
    omega
theorem join_words {l : List (List Nat)} (h : ∀ c ∈ l, c.length ≤ 3) (hl : l.length ≤ 1000) : dJoin (.str [32]) [.lst (l.map .str)] = some (.str (joinD [32] l)) := by
  have h1 := sum3 h
  have h3 : strsOf (l.map .str) = some l := by
    have := strsOf_map l id
    rwa [List.map_id] at this
  show (strsOf (l.map .str)).bind _ = _
  rw [h3]
  show (if _ then _ else _) = _
  rw [if_pos]
  show _ + _ * 1 ≤ _
  omega
theorem str_ix {c : List Nat} (hc : c.length ≤ 12) {k : Nat} (hk : k < c.length) : dIx (.str c) (.int (k : Nat)) = some (.str [c.getD k 0]) := by
  have hz := small_sz (show c.length ≤ 1000 by omega)
  rw [dIx_str hz, atI_nat (v := c.getD k 0) (by rw [List.getD_eq_getElem?_getD, List.getElem?_eq_getElem hk]; rfl)]
  rfl
theorem sg_get {c : List Nat} (h : Sg c) {k : Nat} (hk : k < c.length) : c.getD k 0 = 35 ∨ c.getD k 0 = 46 := by
  have : c.getD k 0 = c[k] := by rw [List.getD_eq_getElem?_getD, List.getElem?_eq_getElem hk]; rfl
  rw [this]
  exact h.2 _ (List.getElem_mem hk)
theorem gx35 {K : D → Prop} : OpGx [([35], [76]), ([46], [68])] (.str [35]) K = K (.str [76]) := OpGx_str rfl
theorem gx46 {K : D → Prop} : OpGx [([35], [76]), ([46], [68])] (.str [46]) K = K (.str [68]) := OpGx_str rfl
theorem text_of_spec {c : List Nat} (h : Sg c) : F_text_of [.str c] = .ok (.str (tx c)) := by
  have hl := h.1
  have hz := small_sz (show c.length ≤ 1000 by omega)
  have e1 : ((c.length : Nat) : Int) + 1 = ((c.length + 1 : Nat) : Int) := by omega
  have r1 : L3.inR 1 = true := inR_of (by omega) (by omega)
  have r2 : L3.inR ((c.length + 1 : Nat) : Int) = true := inR_of (by omega) (by omega)
  apply okF_of
  unfold F_text_of d_text_of
  simp! [hz, e1, r1, r2]
  refine Po_for_of (fun i e' => ∃ x3 : Option D, e' = [some (.str c), some (.lst ((fw c i).1.map .str)), some (.int ((fw c i).2 : Nat)), x3]) ⟨_, rfl⟩ ?_ ?_
  · rintro i d e' hd ⟨x3, rfl⟩
    obtain ⟨hi, rfl⟩ := irange_get hd
    have hi : i < c.length := by omega
    have e0 : (1 : Int) + (i : Int) = ((i + 1 : Nat) : Int) := by omega
    rw [e0]
    obtain ⟨hb, hw⟩ := fw_le c i
    have hstep : fw c (i + 1) = stp c (fw c i) (i + 1) := rfl
    rw [hstep]
    generalize fw c i = st at hb hw ⊢
    obtain ⟨ws, b⟩ := st
    dsimp only at hb hw ⊢
    have ib := str_ix hl (show b < c.length by omega)
    have hbs := sg_get h (show b < c.length by omega)
    have es : ((i + 1 : Nat) : Int) - ((b : Nat) : Int) = ((i + 1 - b : Nat) : Int) := by omega
    have hst := strI_nat (n := i + 1 - b) (by omega)
    have hwl := dstr_len (n := i + 1 - b) (by omega)
    have hmu : ∀ w : List Nat, muAppend (ws.map .str) [.str w] = some ((ws ++ [w]).map .str) := fun w => by
      rw [List.map_append]; exact muApp (small_lt (by rw [List.length_map]; omega))
    have z2 : 1 + (dstr (i + 1 - b)).length ≤ sizeLine := small_sz (by omega)
    by_cases hk : i + 1 = c.length
    · have hkI : (((i + 1 : Nat) : Int) = ((c.length : Nat) : Int)) = True := eq_true (by omega)
      have hs : stp c (ws, b) (i + 1) = (ws ++ [wd c b (i + 1)], i + 1) := if_pos (.inl hk)
      rw [hs]
      have hmw := hmu (wd c b (i + 1))
      unfold wd at hmw ⊢
      rcases hbs with hbs | hbs
      · rw [hbs] at ib
        rw [if_pos hbs, List.cons_append, List.nil_append] at hmw ⊢
        simp! [hz, hkI, ↓ib, ↓gx35, es, hst, hmw, z2]
        exact ⟨_, rfl⟩
      · have hn35 : ¬ c.getD b 0 = 35 := by omega
        rw [hbs] at ib
        rw [if_neg hn35, List.cons_append, List.nil_append] at hmw ⊢
        simp! [hz, hkI, ↓ib, ↓gx46, es, hst, hmw, z2]
        exact ⟨_, rfl⟩
    · have hkI : ¬ ((i + 1 : Nat) : Int) = ((c.length : Nat) : Int) := by omega
      have ik := str_ix hl (show i + 1 < c.length by omega)
      by_cases hcc : c.getD (i + 1) 0 = c.getD b 0
      · have hs : stp c (ws, b) (i + 1) = (ws, b) := if_neg (fun z => z.elim hk fun z => z hcc)
        rw [hs]
        rw [hcc] at ik
        simp! [hz, hkI, ↓ik, ↓ib, dNe_str]
        exact ⟨_, rfl⟩
      · have hs : stp c (ws, b) (i + 1) = (ws ++ [wd c b (i + 1)], i + 1) := if_pos (.inr hcc)
        rw [hs]
        have hcc' : ¬ [c.getD (i + 1) 0] = [c.getD b 0] := fun e => hcc (by injection e)
        have hmw := hmu (wd c b (i + 1))
        unfold wd at hmw ⊢
        rcases hbs with hbs | hbs
        · rw [hbs] at ib hcc'
          rw [if_pos hbs, List.cons_append, List.nil_append] at hmw ⊢
          simp! [hz, hkI, ↓ik, ↓ib, dNe_str, hcc', ↓gx35, es, hst, hmw, z2]
          exact ⟨_, rfl⟩
        · have hn35 : ¬ c.getD b 0 = 35 := by omega
          rw [hbs] at ib hcc'
          rw [if_neg hn35, List.cons_append, List.nil_append] at hmw ⊢
          simp! [hz, hkI, ↓ik, ↓ib, dNe_str, hcc', ↓gx46, es, hst, hmw, z2]
          exact ⟨_, rfl⟩
  · rintro e' ⟨x3, rfl⟩
    rw [irange_length]
    have el : ((((c.length + 1 : Nat) : Int) - 1).toNat) = c.length := by omega
    rw [el]
    have hj := join_words (fw_words c hl c.length (Nat.le_refl _)) (by have := (fw_le c c.length).2; omega)
    simp! [↓hj]
    rfl
theorem law_text_spec {c : List Nat} (h : Sg c) : F_law_text [.str c] = .ok (.str (tx c)) := by
  have hl := h.1
  have hz := small_sz (show c.length ≤ 1000 by omega)
  have e1 : ((c.length : Nat) : Int) + 1 = ((c.length + 1 : Nat) : Int) := by omega
  have r1 : L3.inR 1 = true := inR_of (by omega) (by omega)
  have r2 : L3.inR ((c.length + 1 : Nat) : Int) = true := inR_of (by omega) (by omega)
  apply okF_of
  unfold F_law_text d_law_text
  simp! [hz, e1, r1, r2]
  refine Po_for_of (fun i e' => ∃ x3 : Option D, e' = [some (.str c), some (.lst ((fw c i).1.map .str)), some (.int ((fw c i).2 : Nat)), x3]) ⟨_, rfl⟩ ?_ ?_
  · rintro i d e' hd ⟨x3, rfl⟩
    obtain ⟨hi, rfl⟩ := irange_get hd
    have hi : i < c.length := by omega
    have e0 : (1 : Int) + (i : Int) = ((i + 1 : Nat) : Int) := by omega
    rw [e0]
    obtain ⟨hb, hw⟩ := fw_le c i
    have hstep : fw c (i + 1) = stp c (fw c i) (i + 1) := rfl
    rw [hstep]
    generalize fw c i = st at hb hw ⊢
    obtain ⟨ws, b⟩ := st
    dsimp only at hb hw ⊢
    have ib := str_ix hl (show b < c.length by omega)
    have hbs := sg_get h (show b < c.length by omega)
    have es : ((i + 1 : Nat) : Int) - ((b : Nat) : Int) = ((i + 1 - b : Nat) : Int) := by omega
    have hst := strI_nat (n := i + 1 - b) (by omega)
    have hwl := dstr_len (n := i + 1 - b) (by omega)
    have hmu : ∀ w : List Nat, muAppend (ws.map .str) [.str w] = some ((ws ++ [w]).map .str) := fun w => by
      rw [List.map_append]; exact muApp (small_lt (by rw [List.length_map]; omega))
    have z2 : 1 + (dstr (i + 1 - b)).length ≤ sizeLine := small_sz (by omega)
    by_cases hk : i + 1 = c.length
    · have hkI : (((i + 1 : Nat) : Int) = ((c.length : Nat) : Int)) = True := eq_true (by omega)
      have hs : stp c (ws, b) (i + 1) = (ws ++ [wd c b (i + 1)], i + 1) := if_pos (.inl hk)
      rw [hs]
      have hmw := hmu (wd c b (i + 1))
      unfold wd at hmw ⊢
      rcases hbs with hbs | hbs
      · rw [hbs] at ib
        rw [if_pos hbs, List.cons_append, List.nil_append] at hmw ⊢
        simp! [hz, hkI, ↓ib, es, hst, hmw, z2]
        exact ⟨_, rfl⟩
      · have hn35 : ¬ c.getD b 0 = 35 := by omega
        rw [hbs] at ib
        rw [if_neg hn35, List.cons_append, List.nil_append] at hmw ⊢
        simp! [hz, hkI, ↓ib, es, hst, hmw, z2]
        exact ⟨_, rfl⟩
    · have hkI : ¬ ((i + 1 : Nat) : Int) = ((c.length : Nat) : Int) := by omega
      have ik := str_ix hl (show i + 1 < c.length by omega)
      by_cases hcc : c.getD (i + 1) 0 = c.getD b 0
      · have hs : stp c (ws, b) (i + 1) = (ws, b) := if_neg (fun z => z.elim hk fun z => z hcc)
        rw [hs]
        rw [hcc] at ik
        simp! [hz, hkI, ↓ik, ↓ib, dNe_str]
        exact ⟨_, rfl⟩
      · have hs : stp c (ws, b) (i + 1) = (ws ++ [wd c b (i + 1)], i + 1) := if_pos (.inr hcc)
        rw [hs]
        have hcc' : ¬ [c.getD (i + 1) 0] = [c.getD b 0] := fun e => hcc (by injection e)
        have hmw := hmu (wd c b (i + 1))
        unfold wd at hmw ⊢
        rcases hbs with hbs | hbs
        · rw [hbs] at ib hcc'
          rw [if_pos hbs, List.cons_append, List.nil_append] at hmw ⊢
          simp! [hz, hkI, ↓ik, ↓ib, dNe_str, hcc', es, hst, hmw, z2]
          exact ⟨_, rfl⟩
        · have hn35 : ¬ c.getD b 0 = 35 := by omega
          rw [hbs] at ib hcc'
          rw [if_neg hn35, List.cons_append, List.nil_append] at hmw ⊢
          simp! [hz, hkI, ↓ik, ↓ib, dNe_str, hcc', es, hst, hmw, z2]
          exact ⟨_, rfl⟩
  · rintro e' ⟨x3, rfl⟩
    rw [irange_length]
    have el : ((((c.length + 1 : Nat) : Int) - 1).toNat) = c.length := by omega
    rw [el]
    have hj := join_words (fw_words c hl c.length (Nat.le_refl _)) (by have := (fw_le c c.length).2; omega)
    simp! [↓hj]
    rfl
/-! chruns -/
/-! ### runs -/
def wdP (q : Nat × Nat) : List Nat := (if q.1 = 35 then [76] else [68]) ++ dstr q.2
def flatP (ps : List (Nat × Nat)) : List Nat := ps.flatMap fun q => List.replicate q.2 q.1
def rle : List Nat → List (Nat × Nat)
  | [] => []
  | c :: cs => match rle cs with
    | [] => [(c, 1)]
    | (s, n) :: r => if s = c then (s, n + 1) :: r else (c, 1) :: (s, n) :: r
/-- neighbours unlike, none empty -/
def Unl : List (Nat × Nat) → Prop
  | [] => True
  | [q] => 1 ≤ q.2
  | q :: p :: r => 1 ≤ q.2 ∧ q.1 ≠ p.1 ∧ Unl (p :: r)
theorem flat_rle : ∀ f : List Nat, flatP (rle f) = f
  | [] => rfl
  | c :: cs => by
    have ih := flat_rle cs
    unfold rle
    cases h : rle cs with
    | nil =>
      rw [h] at ih
      have : cs = [] := ih.symm
      rw [this]; rfl
    | cons q r =>
      obtain ⟨s, n⟩ := q
      rw [h] at ih
      dsimp only
      split
      · rename_i e
        subst e
        show List.replicate (n + 1) s ++ flatP r = s :: cs
        rw [List.replicate_succ, ← ih]; rfl
      · show List.replicate 1 c ++ flatP ((s, n) :: r) = c :: cs
        rw [ih]; rfl
theorem unl_rle : ∀ f : List Nat, Unl (rle f)
  | [] => trivial
  | c :: cs => by
    have ih := unl_rle cs
    unfold rle
    cases h : rle cs with
    | nil => exact Nat.le_refl 1
    | cons q r =>
      obtain ⟨s, n⟩ := q
      rw [h] at ih
      dsimp only
      split
      · cases r with
        | nil => show 1 ≤ n + 1; omega
        | cons p r => exact ⟨by show 1 ≤ n + 1; omega, ih.2⟩
      · rename_i hne
        exact ⟨Nat.le_refl 1, fun e => hne e.symm, ih⟩
theorem rle_rep {s : Nat} {r : List (Nat × Nat)} (hr : Unl r) (hs : ∀ p r', r = p :: r' → s ≠ p.1) {f : List Nat} (hf : rle f = r) : ∀ n, 1 ≤ n → rle (List.replicate n s ++ f) = (s, n) :: r
  | 1, _ => by
    show rle (s :: f) = _
    unfold rle
    rw [hf]
    cases r with
    | nil => rfl
    | cons p r' =>
      obtain ⟨a, b⟩ := p
      dsimp only
      rw [if_neg fun e => hs _ _ rfl e.symm]
  | n + 2, _ => by
    have ih := rle_rep hr hs hf (n + 1) (by omega)
    rw [List.replicate_succ, List.cons_append]
    unfold rle
    rw [ih]
    dsimp only
    rw [if_pos rfl]
theorem rle_flat : ∀ {ps : List (Nat × Nat)}, Unl ps → rle (flatP ps) = ps
  | [], _ => rfl
  | [q], h => by
    have := rle_rep (s := q.1) (r := []) (f := []) trivial (fun p r' e => by cases e) rfl q.2 h
    show rle (List.replicate q.2 q.1 ++ []) = _
    rw [this]
  | q :: p :: r, h => by
    have ih := rle_flat h.2.2
    have := rle_rep (s := q.1) h.2.2 (fun p' r' e => by injection e with e1 _; rw [← e1]; exact h.2.1) ih q.2 h.1
    show rle (List.replicate q.2 q.1 ++ flatP (p :: r)) = _
    rw [this]
/-- the loop over the character runs through the runs -/
theorem fw_run {c : List Nat} {s n a : Nat} {ws : List (List Nat)} (hn : 1 ≤ n) (hs : ∀ k, a ≤ k → k < a + n → c.getD k 0 = s) (hl : a + n ≤ c.length) (he : a + n = c.length ∨ c.getD (a + n) 0 ≠ s) (h : fw c a = (ws, a)) : fw c (a + n) = (ws ++ [wdP (s, n)], a + n) := by
  have in_ : ∀ i, i < n → fw c (a + i) = (ws, a) := fun i => by
    induction i with
    | zero => intro _; exact h
    | succ i ih =>
      intro hi
      show stp c (fw c (a + i)) (a + i + 1) = _
      rw [ih (by omega)]
      unfold stp
      rw [if_neg]
      rintro (z | z)
      · omega
      · exact z ((hs _ (by omega) (by omega)).trans (hs a (Nat.le_refl _) (by omega)).symm)
  obtain ⟨m, rfl⟩ : ∃ m, n = m + 1 := ⟨n - 1, by omega⟩
  show stp c (fw c (a + m)) (a + m + 1) = _
  rw [in_ m (by omega)]
  have hsa := hs a (Nat.le_refl _) (by omega)
  unfold stp
  rw [if_pos]
  · show (ws ++ [wd c a (a + m + 1)], a + m + 1) = (ws ++ [wdP (s, m + 1)], a + (m + 1))
    have : wd c a (a + m + 1) = wdP (s, m + 1) := by
      unfold wd wdP
      rw [hsa, show a + m + 1 - a = m + 1 by omega]
    rw [this]; rfl
  · rcases he with he | he
    · exact .inl (by omega)
    · exact .inr (by show c.getD (a + m + 1) 0 ≠ c.getD a 0; rw [hsa]; exact he)
theorem fw_runs {c : List Nat} : ∀ (ps : List (Nat × Nat)) (pre : List Nat) (ws : List (List Nat)), Unl ps → c = pre ++ flatP ps → fw c pre.length = (ws, pre.length) → fw c c.length = (ws ++ ps.map wdP, c.length)
  | [], pre, ws, _, hc, h => by
    have : c = pre := by rw [hc]; simp [flatP]
    rw [List.map_nil, List.append_nil]
    rw [← this] at h
    exact h
  | q :: r, pre, ws, hu, hc, h => by
    have hq : 1 ≤ q.2 := by
      cases r with
      | nil => exact hu
      | cons p r => exact hu.1
    have hur : Unl r := by
      cases r with
      | nil => trivial
      | cons p r => exact hu.2.2
    have hc' : c = pre ++ (List.replicate q.2 q.1 ++ flatP r) := hc
    have hlen : c.length = pre.length + (q.2 + (flatP r).length) := by rw [hc', List.length_append, List.length_append, List.length_replicate]
    have hget : ∀ k, pre.length ≤ k → k < pre.length + q.2 → c.getD k 0 = q.1 := fun k h1 h2 => by
      rw [List.getD_eq_getElem?_getD, hc', List.getElem?_append_right h1, List.getElem?_append_left (by rw [List.length_replicate]; omega), List.getElem?_replicate, if_pos (by omega)]; rfl
    have hend : pre.length + q.2 = c.length ∨ c.getD (pre.length + q.2) 0 ≠ q.1 := by
      cases r with
      | nil => left; rw [hlen]; simp [flatP]
      | cons p r' =>
        right
        have hp : 1 ≤ p.2 := by
          cases r' with
          | nil => exact hur
          | cons p' r' => exact hur.1
        have : c.getD (pre.length + q.2) 0 = p.1 := by
          rw [List.getD_eq_getElem?_getD, hc', List.getElem?_append_right (by omega), List.getElem?_append_right (by rw [List.length_replicate]; omega), List.length_replicate]
          show (List.replicate p.2 p.1 ++ flatP r')[pre.length + q.2 - pre.length - q.2]?.getD 0 = p.1
          rw [show pre.length + q.2 - pre.length - q.2 = 0 by omega, List.getElem?_append_left (by rw [List.length_replicate]; omega), List.getElem?_replicate, if_pos (by omega)]; rfl
        rw [this]
        exact fun e => hu.2.1 e.symm
    have h1 := fw_run hq hget (by omega) hend h
    have h2 := fw_runs (c := c) r (pre ++ List.replicate q.2 q.1) (ws ++ [wdP (q.1, q.2)]) hur (by rw [hc', List.append_assoc]) (by rw [List.length_append, List.length_replicate]; exact h1)
    rw [h2, List.map_cons, List.append_assoc]; rfl
theorem tx_rle (c : List Nat) : tx c = joinD [32] ((rle c).map wdP) := by
  have := fw_runs (c := c) (rle c) [] [] (unl_rle c) (flat_rle c).symm rfl
  unfold tx
  rw [this]; rfl
/-! chtexts -/
/-! ### texts as words -/
def wds (s : List Nat) : List (List Nat) := TL.spl [32] 0 [] s
theorem wds_ne (s : List Nat) : ∀ acc, TL.spl [32] 0 acc s ≠ [] := by
  induction s with
  | nil => intro acc; rw [TL.spl_nil]; simp
  | cons c r ih =>
    intro acc
    cases h : TL.pre [32] (c :: r) with
    | true => rw [TL.spl_hit h]; simp
    | false => rw [TL.spl_miss h]; exact ih _
theorem pre32 (c : Nat) (r : List Nat) : TL.pre [32] (c :: r) = decide (c = 32) := by
  cases h : decide (c = 32) with
  | true =>
    have := of_decide_eq_true h
    subst this
    simp [TL.pre]
  | false =>
    have := of_decide_eq_false h
    simp [TL.pre]
    omega
theorem join_wds (s : List Nat) : ∀ acc, joinD [32] (TL.spl [32] 0 acc s) = acc ++ s := by
  induction s with
  | nil => intro acc; rw [TL.spl_nil, List.append_nil]; rfl
  | cons c r ih =>
    intro acc
    by_cases hc : c = 32
    · subst hc
      rw [TL.spl_hit (by rw [pre32]; rfl)]
      have e : ([32] : List Nat).length - 1 = 0 := rfl
      rw [e]
      have hj := ih []
      cases hq : TL.spl [32] 0 [] r with
      | nil => exact absurd hq (wds_ne r [])
      | cons a l =>
        rw [hq] at hj
        show acc ++ [32] ++ joinD [32] (a :: l) = _
        rw [hj, List.nil_append, List.append_assoc]; rfl
    · rw [TL.spl_miss (by rw [pre32]; exact decide_eq_false hc), ih, List.append_assoc]; rfl
theorem splitD_wds (s : List Nat) : splitD s [32] = wds s := by
  unfold splitD wds
  rw [SX.split_S (by simp) (by decide), List.map_map]
  exact List.map_id'' (fun l => by simp [S]) _
theorem joinD_len : ∀ {l : List (List Nat)}, l.length ≤ (joinD [32] l).length + 1 ∧ ∀ w ∈ l, w.length ≤ (joinD [32] l).length
  | [] => ⟨by simp, fun w h => by cases h⟩
  | [a] => ⟨by simp [joinD], fun w h => by rw [List.mem_singleton.mp h]; exact Nat.le_refl _⟩
  | a :: b :: l => by
    obtain ⟨h1, h2⟩ := joinD_len (l := b :: l)
    have e : (joinD [32] (a :: b :: l)).length = a.length + 1 + (joinD [32] (b :: l)).length := by
      show (a ++ [32] ++ joinD [32] (b :: l)).length = _
      rw [List.length_append, List.length_append, List.length_singleton]
    rw [e]
    refine ⟨by rw [List.length_cons]; omega, fun w h => ?_⟩
    rcases List.mem_cons.mp h with rfl | h
    · omega
    · have := h2 w h; omega
theorem wds_len (s : List Nat) : (wds s).length ≤ s.length + 1 ∧ ∀ w ∈ wds s, w.length ≤ s.length := by
  have h := joinD_len (l := wds s)
  have e : joinD [32] (wds s) = s := by rw [wds, join_wds]; rfl
  rwa [e] at h
/-- the number that a text tells -/
def cn (t : List Nat) : Option Nat := (List.range 12).findSome? fun k => if t = dstr (k + 1) then some (k + 1) else none
theorem cn_some {t : List Nat} {n : Nat} (h : cn t = some n) : t = dstr n ∧ 1 ≤ n ∧ n ≤ 12 := by
  obtain ⟨k, hk, e⟩ := List.exists_of_findSome?_eq_some h
  split at e
  · rename_i ht
    cases e
    exact ⟨ht, by omega, by have := List.mem_range.mp hk; omega⟩
  · cases e
theorem dstr_inj : ∀ n m, n ≤ 12 → m ≤ 12 → dstr n = dstr m → n = m := by
  have : ∀ n, n ≤ 12 → ∀ m, m ≤ 12 → dstr n = dstr m → n = m := by decide +kernel
  exact fun n m h1 h2 => this n h1 m h2
theorem cn_dstr {n : Nat} (h1 : 1 ≤ n) (h2 : n ≤ 12) : cn (dstr n) = some n := by
  have : ∀ n, n ≤ 12 → 1 ≤ n → cn (dstr n) = some n := by decide +kernel
  exact this n h2 h1
theorem dstr_free : ∀ n, n ≤ 12 → 32 ∉ dstr n := by decide +kernel
theorem wdP_free {q : Nat × Nat} (h : q.2 ≤ 12) : 32 ∉ wdP q := by
  unfold wdP
  intro hx
  rcases List.mem_append.mp hx with hx | hx
  · split at hx <;> simp at hx
  · exact dstr_free _ h hx
theorem wdP_inj {p q : Nat × Nat} (hp : (p.1 = 35 ∨ p.1 = 46) ∧ p.2 ≤ 12) (hq : (q.1 = 35 ∨ q.1 = 46) ∧ q.2 ≤ 12) (h : wdP p = wdP q) : p = q := by
  unfold wdP at h
  rcases hp.1 with h1 | h1 <;> rcases hq.1 with h2 | h2 <;> rw [h1, h2] at h <;> simp at h
  · exact Prod.ext (by omega) (dstr_inj _ _ hp.2 hq.2 h)
  · exact Prod.ext (by omega) (dstr_inj _ _ hp.2 hq.2 h)
def sgn (w : List Nat) : Option Nat := if w.take 1 = [76] then some 35 else if w.take 1 = [68] then some 46 else none
def pw (w : List Nat) : Option (Nat × Nat) := match sgn w, cn (w.drop 1) with
  | some s, some n => some (s, n)
  | _, _ => none
theorem pw_some {w : List Nat} {q : Nat × Nat} (h : pw w = some q) : w = wdP q ∧ (q.1 = 35 ∨ q.1 = 46) ∧ 1 ≤ q.2 ∧ q.2 ≤ 12 := by
  unfold pw at h
  cases hs : sgn w with
  | none => rw [hs] at h; cases h
  | some s =>
    cases hc : cn (w.drop 1) with
    | none => rw [hs, hc] at h; cases h
    | some n =>
      rw [hs, hc] at h
      cases h
      obtain ⟨c1, c2, c3⟩ := cn_some hc
      have e := List.take_append_drop 1 w
      unfold sgn at hs
      split at hs
      · rename_i h1
        cases hs
        exact ⟨by rw [← e, h1, c1]; rfl, .inl rfl, c2, c3⟩
      · split at hs
        · rename_i h1
          cases hs
          exact ⟨by rw [← e, h1, c1]; rfl, .inr rfl, c2, c3⟩
        · cases hs
theorem pw_wdP {q : Nat × Nat} (h : q.1 = 35 ∨ q.1 = 46) (h1 : 1 ≤ q.2) (h2 : q.2 ≤ 12) : pw (wdP q) = some q := by
  obtain ⟨s, n⟩ := q
  rcases h with h | h
  · have h : s = 35 := h
    subst h
    show (match sgn (76 :: dstr n), cn (dstr n) with | some s, some n => some (s, n) | _, _ => none) = _
    rw [cn_dstr h1 h2]; rfl
  · have h : s = 46 := h
    subst h
    show (match sgn (68 :: dstr n), cn (dstr n) with | some s, some n => some (s, n) | _, _ => none) = _
    rw [cn_dstr h1 h2]; rfl
def R1 : List (List Nat) → List Nat → Option (List Nat)
  | [], f => some f
  | w :: ws, f => match pw w with
    | none => none
    | some q => if (f ≠ [] ∧ f.getLastD 0 = q.1) ∨ 12 < f.length + q.2 then none else R1 ws (f ++ List.replicate q.2 q.1)
def R2 : List (List Nat) → List Nat → Option (List Nat)
  | [], f => some f
  | w :: ws, f => match pw w with
    | none => none
    | some q => R2 ws (f ++ List.replicate q.2 q.1)
theorem R_none : ∀ {ws : List (List Nat)}, (∃ w ∈ ws, pw w = none) → ∀ f, R1 ws f = none ∧ R2 ws f = none
  | [], h, f => by obtain ⟨w, hw, _⟩ := h; cases hw
  | w :: ws, h, f => by
    unfold R1 R2
    cases hp : pw w with
    | none => exact ⟨rfl, rfl⟩
    | some q =>
      obtain ⟨v, hv, hv2⟩ := h
      rcases List.mem_cons.mp hv with rfl | hv
      · rw [hp] at hv2; cases hv2
      · have ih := R_none ⟨v, hv, hv2⟩ (f ++ List.replicate q.2 q.1)
        dsimp only
        refine ⟨?_, ih.2⟩
        split
        · rfl
        · exact ih.1
theorem R2_all : ∀ {ps : List (Nat × Nat)}, (∀ q ∈ ps, (q.1 = 35 ∨ q.1 = 46) ∧ 1 ≤ q.2 ∧ q.2 ≤ 12) → ∀ f, R2 (ps.map wdP) f = some (f ++ flatP ps)
  | [], _, f => by simp [R2, flatP]
  | q :: r, h, f => by
    have hq := h q (.head _)
    show R2 (wdP q :: r.map wdP) f = _
    unfold R2
    rw [pw_wdP hq.1 hq.2.1 hq.2.2]
    dsimp only
    rw [R2_all (fun p hp => h p (.tail _ hp)), List.append_assoc]; rfl
theorem last_rep (f : List Nat) {n s : Nat} (h : 1 ≤ n) : (f ++ List.replicate n s).getLastD 0 = s ∧ f ++ List.replicate n s ≠ [] := by
  obtain ⟨m, rfl⟩ : ∃ m, n = m + 1 := ⟨n - 1, by omega⟩
  rw [List.replicate_succ', ← List.append_assoc]
  exact ⟨by simp, by simp⟩
theorem R1_all : ∀ {ps : List (Nat × Nat)}, (∀ q ∈ ps, (q.1 = 35 ∨ q.1 = 46) ∧ 1 ≤ q.2 ∧ q.2 ≤ 12) → ∀ f, f.length ≤ 12 → (∀ q r, ps = q :: r → f ≠ [] → f.getLastD 0 ≠ q.1) →
    ((Unl ps ∧ f.length + (flatP ps).length ≤ 12) → R1 (ps.map wdP) f = some (f ++ flatP ps)) ∧ (¬ (Unl ps ∧ f.length + (flatP ps).length ≤ 12) → R1 (ps.map wdP) f = none)
  | [], _, f, hf, _ => ⟨fun _ => by simp [R1, flatP], fun h => absurd ⟨trivial, by simpa [flatP] using hf⟩ h⟩
  | q :: r, h, f, hf, hl => by
    have hq := h q (.head _)
    have hfl : (flatP (q :: r)).length = q.2 + (flatP r).length := by
      show (List.replicate q.2 q.1 ++ flatP r).length = _
      rw [List.length_append, List.length_replicate]
    have e : R1 ((q :: r).map wdP) f = if (f ≠ [] ∧ f.getLastD 0 = q.1) ∨ 12 < f.length + q.2 then none else R1 (r.map wdP) (f ++ List.replicate q.2 q.1) := by
      show R1 (wdP q :: r.map wdP) f = _
      conv => lhs; unfold R1
      rw [pw_wdP hq.1 hq.2.1 hq.2.2]
    rw [e]
    have hnl : ¬ (f ≠ [] ∧ f.getLastD 0 = q.1) := fun z => hl q r rfl z.1 z.2
    by_cases h12 : 12 < f.length + q.2
    · rw [if_pos (.inr h12)]
      exact ⟨fun z => by have := z.2; omega, fun _ => rfl⟩
    · rw [if_neg (fun z => z.elim hnl h12)]
      obtain ⟨hla, hne⟩ := last_rep f (s := q.1) hq.2.1
      have hlen : (f ++ List.replicate q.2 q.1).length = f.length + q.2 := by rw [List.length_append, List.length_replicate]
      by_cases hu : ∀ p r', r = p :: r' → q.1 ≠ p.1
      · obtain ⟨i1, i2⟩ := R1_all (ps := r) (fun p hp => h p (.tail _ hp)) (f ++ List.replicate q.2 q.1) (by omega) (fun p r' e _ => by rw [hla]; exact hu p r' e)
        have hU : Unl (q :: r) ↔ Unl r := by
          cases r with
          | nil => exact ⟨fun _ => trivial, fun _ => hq.2.1⟩
          | cons p r' => exact ⟨fun z => z.2.2, fun z => ⟨hq.2.1, hu p r' rfl, z⟩⟩
        rw [hU, hfl]
        rw [hlen] at i1 i2
        refine ⟨fun z => ?_, fun z => i2 fun y => z ⟨y.1, by omega⟩⟩
        rw [i1 ⟨z.1, by omega⟩, List.append_assoc]; rfl
      · have hnU : ¬ Unl (q :: r) := fun z => hu fun p r' e => by subst e; exact z.2.1
        refine ⟨fun z => absurd z.1 hnU, fun _ => ?_⟩
        obtain ⟨p, r', er, hp⟩ : ∃ p r', r = p :: r' ∧ q.1 = p.1 := by
          cases r with
          | nil => exact absurd (fun p r' e => by cases e) hu
          | cons p r' => exact ⟨p, r', rfl, Decidable.byContradiction fun hn => hu fun p' r'' e => by injection e with e1 _; rw [← e1]; exact hn⟩
        subst er
        have hpq := h p (by simp)
        show R1 (wdP p :: r'.map wdP) _ = _
        unfold R1
        rw [pw_wdP hpq.1 hpq.2.1 hpq.2.2]
        dsimp only
        rw [if_pos (.inl ⟨hne, hla.trans hp⟩)]
/-! chcount -/
theorem fold_ge : ∀ (r : List Nat) (a : Nat), a ≤ r.foldl (fun acc c => acc * 10 + (c - 48)) a
  | [], a => Nat.le_refl _
  | c :: r, a => Nat.le_trans (by omega) (fold_ge r (a * 10 + (c - 48)))
theorem dstr_dig : ∀ n, n ≤ 12 → (dstr n).all (fun c => decide (c ∈ [48, 49, 50, 51, 52, 53, 54, 55, 56, 57])) = true := by decide +kernel
theorem dstr_val : ∀ n, n ≤ 12 → PySem.NumText.digitsVal (dstr n) = n := by decide +kernel
theorem dstr_head : ∀ n, n ≤ 12 → 1 ≤ n → (dstr n).getD 0 0 ≠ 48 ∧ dstr n ≠ [] := by decide +kernel
theorem one_dig : ∀ i, i < 9 → [49 + i] = dstr (i + 1) := by decide +kernel
theorem two_dig : ∀ i, i < 3 → [49, 48 + i] = dstr (10 + i) := by decide +kernel
theorem val_dstr {t : List Nat} (h : ∀ c ∈ t, 48 ≤ c ∧ c ≤ 57) (h0 : t ≠ []) (h1 : t.getD 0 0 ≠ 48) (hv : PySem.NumText.digitsVal t ≤ 12) : t = dstr (PySem.NumText.digitsVal t) ∧ 1 ≤ PySem.NumText.digitsVal t := by
  cases t with
  | nil => exact absurd rfl h0
  | cons c r =>
    have hc := h c (.head _)
    have hc1 : c ≠ 48 := h1
    cases r with
    | nil =>
      have hval : PySem.NumText.digitsVal [c] = c - 48 := by show 0 * 10 + (c - 48) = _; omega
      rw [hval]
      have := one_dig (c - 49) (by omega)
      rw [show 49 + (c - 49) = c by omega, show c - 49 + 1 = c - 48 by omega] at this
      exact ⟨this, by omega⟩
    | cons d r =>
      have hd := h d (by simp)
      cases r with
      | nil =>
        have hval : PySem.NumText.digitsVal [c, d] = (c - 48) * 10 + (d - 48) := by show (0 * 10 + (c - 48)) * 10 + (d - 48) = _; omega
        rw [hval] at hv ⊢
        have hc49 : c = 49 := by omega
        subst hc49
        have := two_dig (d - 48) (by omega)
        rw [show 48 + (d - 48) = d by omega] at this
        exact ⟨by rw [this], by omega⟩
      | cons e r =>
        have hval : ((0 * 10 + (c - 48)) * 10 + (d - 48)) * 10 + (e - 48) ≤ PySem.NumText.digitsVal (c :: d :: e :: r) := fold_ge r _
        omega
theorem as_count_spec {t : List Nat} (ht : t.length ≤ 1000) : F_as_count [.str t, .int 12] = .ok (match cn t with | some n => .int (n : Nat) | none => .non) := by
  have hz := small_sz ht
  have his := is_of_signs_str t [48, 49, 50, 51, 52, 53, 54, 55, 56, 57] hz
  have cnN : ∀ (P : Prop), (∀ n, t = dstr n → 1 ≤ n → n ≤ 12 → P) → ¬ P → cn t = none := fun P h1 h2 => by
    cases hc : cn t with
    | none => rfl
    | some n =>
      obtain ⟨a, b, c⟩ := cn_some hc
      exact absurd (h1 n a b c) h2
  apply okF_of
  unfold F_as_count d_as_count
  by_cases h1 : 1 ≤ t.length
  · have h1' : (1 : Int) ≤ (t.length : Nat) := by omega
    by_cases h6 : t.length ≤ 6
    · have h6' : ((t.length : Nat) : Int) ≤ 6 := by omega
      cases hd : t.all fun c => decide (c ∈ [48, 49, 50, 51, 52, 53, 54, 55, 56, 57]) with
      | false =>
        rw [hd] at his
        rw [cnN (t.all (fun c => decide (c ∈ [48, 49, 50, 51, 52, 53, 54, 55, 56, 57])) = true) (fun n a _ c => by rw [a]; exact dstr_dig n c) (by rw [hd]; simp)]
        simp! [hz, h1', h6', his]
      | true =>
        rw [hd] at his
        have hdig : ∀ c ∈ t, 48 ≤ c ∧ c ≤ 57 := fun c hc => by
          have := of_decide_eq_true (List.all_eq_true.mp hd c hc)
          simp only [List.mem_cons, List.not_mem_nil, or_false] at this
          omega
        have hne : t ≠ [] := fun e => by rw [e] at h1; simp at h1
        have i0 : dIx (.str t) (.int 0) = some (.str [t.getD 0 0]) := by
          have := atI_nat (xs := t) (j := 0) (v := t.getD 0 0) (by rw [List.getD_eq_getElem?_getD, List.getElem?_eq_getElem (by omega)]; rfl)
          have e0 : ((0 : Nat) : Int) = 0 := rfl
          rw [e0] at this
          rw [dIx_str hz, this]; rfl
        by_cases h48 : t.getD 0 0 = 48
        · rw [cnN (t.getD 0 0 ≠ 48) (fun n a b c => by rw [a]; exact (dstr_head n c b).1) (fun z => z h48)]
          rw [h48] at i0
          simp! [hz, h1', h6', his, ↓i0]
        · have h48' : ¬ [t.getD 0 0] = [48] := fun e => h48 (by injection e)
          have hint : dIntS (.str t) = some (.int (PySem.NumText.digitsVal t : Nat)) := by
            have e2 : (S t).cps.toList = t := by simp [S]
            have := PySem.intText_digits (x := S t) (by rw [e2]; exact hdig) (by rw [e2]; exact hne) (by rw [S_len]; omega)
            rw [e2] at this
            show (if _ then _ else _) = _
            rw [if_pos (by omega), this]; rfl
          by_cases hv : PySem.NumText.digitsVal t ≤ 12
          · obtain ⟨v1, v2⟩ := val_dstr hdig hne h48 hv
            have hcn : cn t = some (PySem.NumText.digitsVal t) := by
              conv => lhs; rw [v1]
              exact cn_dstr v2 hv
            have hv' : ((PySem.NumText.digitsVal t : Nat) : Int) ≤ 12 := by omega
            rw [hcn]
            simp! [hz, h1', h6', his, ↓i0, h48', hint, hv']
          · rw [cnN (PySem.NumText.digitsVal t ≤ 12) (fun n a b c => by rw [a, dstr_val n c]; exact c) hv]
            have hv' : ¬ ((PySem.NumText.digitsVal t : Nat) : Int) ≤ 12 := by omega
            simp! [hz, h1', h6', his, ↓i0, h48', hint, hv']
    · have h6' : ¬ ((t.length : Nat) : Int) ≤ 6 := by omega
      rw [cnN (t.length ≤ 6) (fun n a b c => by rw [a]; have := dstr_len c; omega) h6]
      simp! [hz, h1', h6']
  · have h1' : ¬ (1 : Int) ≤ (t.length : Nat) := by omega
    rw [cnN (1 ≤ t.length) (fun n a b c => by rw [a]; exact List.length_pos_iff.mpr (dstr_head n c b).2) h1]
    simp! [hz, h1']
theorem all_ps : ∀ {ws : List (List Nat)}, (∀ w ∈ ws, pw w ≠ none) → ∃ ps : List (Nat × Nat), ws = ps.map wdP ∧ ∀ q ∈ ps, (q.1 = 35 ∨ q.1 = 46) ∧ 1 ≤ q.2 ∧ q.2 ≤ 12
  | [], _ => ⟨[], rfl, fun q h => by cases h⟩
  | w :: ws, h => by
    obtain ⟨ps, e, hp⟩ := all_ps fun w hw => h w (.tail _ hw)
    cases hw : pw w with
    | none => exact absurd hw (h w (.head _))
    | some q =>
      obtain ⟨a, b, c, d⟩ := pw_some hw
      exact ⟨q :: ps, by rw [e, a]; rfl, fun p hp2 => by
        rcases List.mem_cons.mp hp2 with rfl | hp2
        · exact ⟨b, c, d⟩
        · exact hp p hp2⟩
theorem mem_flat : ∀ {ps : List (Nat × Nat)} {q : Nat × Nat}, q ∈ ps → q.2 ≤ (flatP ps).length ∧ (1 ≤ q.2 → q.1 ∈ flatP ps)
  | p :: r, q, h => by
    have e : flatP (p :: r) = List.replicate p.2 p.1 ++ flatP r := rfl
    rw [e, List.length_append, List.length_replicate]
    rcases List.mem_cons.mp h with rfl | h
    · exact ⟨by omega, fun h1 => List.mem_append_left _ (List.mem_replicate.mpr ⟨by omega, rfl⟩)⟩
    · obtain ⟨h1, h2⟩ := mem_flat h
      exact ⟨by omega, fun z => List.mem_append_right _ (h2 z)⟩
theorem unl_ge : ∀ {ps : List (Nat × Nat)}, Unl ps → ∀ q ∈ ps, 1 ≤ q.2
  | [q], h, p, hp => by rw [List.mem_singleton.mp hp]; exact h
  | q :: p :: r, h, x, hx => by
    rcases List.mem_cons.mp hx with rfl | hx
    · exact h.1
    · exact unl_ge h.2.2 x hx
theorem map_inj {ps qs : List (Nat × Nat)} (hp : ∀ q ∈ ps, (q.1 = 35 ∨ q.1 = 46) ∧ q.2 ≤ 12) (hq : ∀ q ∈ qs, (q.1 = 35 ∨ q.1 = 46) ∧ q.2 ≤ 12) (h : ps.map wdP = qs.map wdP) : ps = qs := by
  induction ps generalizing qs with
  | nil => cases qs with
    | nil => rfl
    | cons q qs => cases h
  | cons p ps ih => cases qs with
    | nil => cases h
    | cons q qs =>
      rw [List.map_cons, List.map_cons] at h
      injection h with h1 h2
      rw [wdP_inj (hp p (.head _)) (hq q (.head _)) h1, ih (fun x hx => hp x (.tail _ hx)) (fun x hx => hq x (.tail _ hx)) h2]
theorem flat_sg {ps : List (Nat × Nat)} (h : ∀ q ∈ ps, q.1 = 35 ∨ q.1 = 46) : ∀ x ∈ flatP ps, x = 35 ∨ x = 46 := fun x hx => by
  obtain ⟨q, hq, hx⟩ := List.mem_flatMap.mp hx
  rw [List.eq_of_mem_replicate hx]
  exact h q hq
theorem spl_tx {f : List Nat} (hf : f ≠ []) (hs : Sg f) : wds (tx f) = (rle f).map wdP ∧ ∀ q ∈ rle f, (q.1 = 35 ∨ q.1 = 46) ∧ 1 ≤ q.2 ∧ q.2 ≤ 12 := by
  have hq : ∀ q ∈ rle f, (q.1 = 35 ∨ q.1 = 46) ∧ 1 ≤ q.2 ∧ q.2 ≤ 12 := fun q hq => by
    have h1 := unl_ge (unl_rle f) q hq
    obtain ⟨h2, h3⟩ := mem_flat hq
    rw [flat_rle] at h2 h3
    exact ⟨hs.2 _ (h3 h1), h1, by have := hs.1; omega⟩
  refine ⟨?_, hq⟩
  rw [tx_rle, joinD_eq]
  refine TL.spl_join (S := []) ?_ ?_
  · intro e
    have : rle f = [] := List.map_eq_nil_iff.mp e
    have h2 := flat_rle f
    rw [this] at h2
    exact hf h2.symm
  · intro p hp
    obtain ⟨q, hq2, rfl⟩ := List.mem_map.mp hp
    exact wdP_free (hq q hq2).2.2
/-- the two looks at a text are one -/
theorem R12 (s : List Nat) : ((R2 (wds s) []).bind fun f => if f.length ≤ 12 ∧ tx f = s then some f else none) = R1 (wds s) [] := by
  by_cases hall : ∀ w ∈ wds s, pw w ≠ none
  · obtain ⟨ps, hps, hp⟩ := all_ps hall
    have hne : ps ≠ [] := fun e => wds_ne s [] (by show wds s = []; rw [hps, e]; rfl)
    have hjs : joinD [32] (ps.map wdP) = s := by rw [← hps, wds, join_wds]; rfl
    obtain ⟨i1, i2⟩ := R1_all hp [] (by simp) (fun q r _ z => absurd rfl z)
    rw [hps, R2_all hp]
    rw [List.nil_append] at i1
    rw [List.length_nil, Nat.zero_add] at i1 i2
    show (if (([] : List Nat) ++ flatP ps).length ≤ 12 ∧ tx ([] ++ flatP ps) = s then some ([] ++ flatP ps) else none) = _
    rw [List.nil_append]
    have hfne : flatP ps ≠ [] := fun e => by
      cases ps with
      | nil => exact hne rfl
      | cons q r =>
        have := (mem_flat (q := q) (ps := q :: r) (.head _)).2 (hp q (.head _)).2.1
        rw [e] at this; cases this
    by_cases hc : Unl ps ∧ (flatP ps).length ≤ 12
    · rw [i1 hc, if_pos ⟨hc.2, by rw [tx_rle, rle_flat hc.1, hjs]⟩]
    · rw [i2 hc, if_neg]
      rintro ⟨h12, htx⟩
      refine hc ⟨?_, h12⟩
      obtain ⟨e1, e2⟩ := spl_tx hfne ⟨h12, flat_sg fun q hq => (hp q hq).1⟩
      rw [htx, hps] at e1
      rw [map_inj (fun q hq => ⟨(hp q hq).1, (hp q hq).2.2⟩) (fun q hq => ⟨(e2 q hq).1, (e2 q hq).2.2⟩) e1]
      exact unl_rle _
  · obtain ⟨w, hw, hn⟩ : ∃ w ∈ wds s, pw w = none := Classical.byContradiction fun h => hall fun w hw e => h ⟨w, hw, e⟩
    obtain ⟨h1, h2⟩ := R_none ⟨w, hw, hn⟩ []
    rw [h1, h2]; rfl
theorem R1_tx {c : List Nat} (hc : c ≠ []) (hs : Sg c) : R1 (wds (tx c)) [] = some c := by
  obtain ⟨e1, e2⟩ := spl_tx hc hs
  rw [e1]
  obtain ⟨i1, _⟩ := R1_all e2 [] (by simp) (fun q r _ z => absurd rfl z)
  rw [i1 ⟨unl_rle c, by rw [flat_rle]; have := hs.1; simpa using this⟩, flat_rle]; rfl
/-! chin -/
theorem last_ix {f : List Nat} (hf : f ≠ []) (hl : f.length ≤ 1000) : dIx (.str f) (.int (-1)) = some (.str [f.getLastD 0]) := by
  have hz := small_sz hl
  obtain ⟨g, x, rfl⟩ : ∃ g x, f = g ++ [x] := ⟨f.dropLast, f.getLast hf, (List.dropLast_concat_getLast hf).symm⟩
  rw [dIx_str hz]
  have : L2.atI (g ++ [x]) (-1) = some x := by
    unfold L2.atI
    have e : ((-1 : Int) + ((g ++ [x]).length : Nat)).toNat = g.length := by rw [List.length_append, List.length_singleton]; omega
    simp
    have e3 : L2.ixN (g.length + 1) (-1) = some g.length := by
      unfold L2.ixN
      simp
      try omega
    rw [e3]
    simp
  rw [this]
  simp
theorem cut1 (w : List Nat) : L3.cutD w (some 1) none = w.drop 1 := cutD_from _ 1
theorem cut0 (w : List Nat) : L3.cutD w none (some 1) = w.take 1 := cutD_to _ 1
theorem tab76 {K : D → Prop} : OpGx [([76], [35]), ([68], [46])] (.str [76]) K = K (.str [35]) := OpGx_str rfl
theorem tab68 {K : D → Prop} : OpGx [([76], [35]), ([68], [46])] (.str [68]) K = K (.str [46]) := OpGx_str rfl
theorem tabn {K : D → Prop} {t : List Nat} (h1 : t ≠ [76]) (h2 : t ≠ [68]) : OpGi true [([76], [35]), ([68], [46])] (.str t) K = K (.bl true) := by
  rw [OpGi_str]; congr 2; simp [Ne.symm h1, Ne.symm h2]
theorem tabn76 {K : D → Prop} : OpGi true [([76], [35]), ([68], [46])] (.str [76]) K = K (.bl false) := by rw [OpGi_str]; rfl
theorem tabn68 {K : D → Prop} : OpGi true [([76], [35]), ([68], [46])] (.str [68]) K = K (.bl false) := by rw [OpGi_str]; rfl
theorem sgn_none {w : List Nat} (h : sgn w = none) : w.take 1 ≠ [76] ∧ w.take 1 ≠ [68] := by
  unfold sgn at h
  split at h
  · cases h
  · split at h
    · cases h
    · exact ⟨‹_›, ‹_›⟩
theorem sgn_some {w : List Nat} {x : Nat} (h : sgn w = some x) : (x = 35 ∧ w.take 1 = [76]) ∨ (x = 46 ∧ w.take 1 = [68]) := by
  unfold sgn at h
  split at h
  · exact .inl ⟨(Option.some.inj h).symm, ‹_›⟩
  · split at h
    · exact .inr ⟨(Option.some.inj h).symm, ‹_›⟩
    · cases h
theorem rep_times (s n : Nat) : (List.replicate ((n : Int)).toNat [s]).flatten = List.replicate n s := by
  rw [Int.toNat_natCast]
  induction n with
  | zero => rfl
  | succ n ih => rw [List.replicate_succ, List.flatten_cons, ih]; rfl
def ansO : Option (List Nat) → D
  | some f => .str f
  | none => .non
theorem character_in_spec {s : List Nat} (hs : s.length ≤ 900) : F_character_in [.str s] = .ok (ansO (R1 (wds s) [])) := by
  have hz := small_sz (show s.length ≤ 1000 by omega)
  have hsp : dSplit (.str s) [.str [32]] = some (.lst ((wds s).map .str)) := by
    show (if _ then _ else _) = _
    rw [if_pos ⟨by decide, by omega⟩, splitD_wds]
  apply okF_of
  unfold F_character_in d_character_in
  simp! [hz, hsp]
  obtain ⟨hwn, hwl⟩ := wds_len s
  refine Po_for_of (fun i e' => ∃ (f : List Nat) (x2 x3 x4 : Option D), e' = [some (.str s), some (.str f), x2, x3, x4] ∧ R1 (wds s) [] = R1 ((wds s).drop i) f ∧ Sg f) ⟨[], _, _, _, rfl, rfl, ⟨by simp, by simp⟩⟩ ?_ ?_
  · rintro i d e' hd ⟨f, x2, x3, x4, rfl, hR, hf⟩
    obtain ⟨w, hw, rfl⟩ : ∃ w, (wds s)[i]? = some w ∧ D.str w = d := by
      rw [List.getElem?_map] at hd
      exact Option.map_eq_some_iff.mp hd
    have hwm : w ∈ wds s := List.mem_of_getElem? hw
    have hdr : (wds s).drop i = w :: (wds s).drop (i + 1) := by
      obtain ⟨h1, h2⟩ := List.getElem?_eq_some_iff.mp hw
      rw [List.drop_eq_getElem_cons h1, h2]
    have hw1 := hwl w hwm
    have zw := small_sz (show w.length ≤ 1000 by omega)
    have zf := small_sz (show f.length ≤ 1000 by have := hf.1; omega)
    have hac := as_count_spec (t := w.drop 1) (by rw [List.length_drop]; omega)
    have hR' : R1 (w :: (wds s).drop (i + 1)) f = match pw w with
      | none => none
      | some q => if (f ≠ [] ∧ f.getLastD 0 = q.1) ∨ 12 < f.length + q.2 then none else R1 ((wds s).drop (i + 1)) (f ++ List.replicate q.2 q.1) := rfl
    rw [hdr, hR'] at hR
    unfold pw at hR
    cases hs1 : sgn w with
    | none =>
      obtain ⟨n1, n2⟩ := sgn_none hs1
      rw [hs1] at hR
      have hRn : R1 (wds s) [] = none := hR
      rw [hRn]
      have hac' : ∃ c, F_as_count [.str (w.drop 1), .int 12] = .ok c := ⟨_, hac⟩
      obtain ⟨c, hac'⟩ := hac'
      simp! [cut1, cut0, hac', zw, ↓tabn n1 n2]
      rfl
    | some g =>
      cases hc : cn (w.drop 1) with
      | none =>
        rw [hs1, hc] at hR
        rw [hc] at hac
        have hRn : R1 (wds s) [] = none := hR
        rw [hRn]
        rcases sgn_some hs1 with ⟨rfl, ht⟩ | ⟨rfl, ht⟩
        · simp! [cut1, cut0, hac, zw, ht, ↓tabn76]
          rfl
        · simp! [cut1, cut0, hac, zw, ht, ↓tabn68]
          rfl
      | some n =>
        obtain ⟨hn0, hn1, hn2⟩ := cn_some hc
        rw [hs1, hc] at hR
        rw [hc] at hac
        have hR2 : R1 (wds s) [] = if (f ≠ [] ∧ f.getLastD 0 = g) ∨ 12 < f.length + n then none else R1 ((wds s).drop (i + 1)) (f ++ List.replicate n g) := hR
        have hmo : mulOkS 1 (n : Int) = true := mulOkS_of (by omega) (by omega) (by omega)
        have hrt := rep_times
        have zg : f.length + n ≤ sizeLine := small_sz (by have := hf.1; omega)
        have hsg : Sg f → f.length + n ≤ 12 → (g = 35 ∨ g = 46) → Sg (f ++ List.replicate n g) := fun h h2 h3 => ⟨by rw [List.length_append, List.length_replicate]; exact h2, fun x hx => by
          rcases List.mem_append.mp hx with hx | hx
          · exact h.2 x hx
          · rw [List.eq_of_mem_replicate hx]; exact h3⟩
        by_cases hc12 : 12 < f.length + n
        · have hb : (12 : Int) < ((f.length : Nat) : Int) + ((n : Nat) : Int) := by omega
          have hRn : R1 (wds s) [] = none := by rw [hR2, if_pos (.inr hc12)]
          rw [hRn]
          by_cases hfe : f = []
          · have hfp : ¬ (0 : Int) < ((f.length : Nat) : Int) := by subst hfe; simp
            rcases sgn_some hs1 with ⟨rfl, ht⟩ | ⟨rfl, ht⟩
            · simp! [cut1, cut0, hac, zw, zf, ht, ↓tabn76, ↓tab76, hb, hfp]
              simp! [zf, hfp, hb]
            · simp! [cut1, cut0, hac, zw, zf, ht, ↓tabn68, ↓tab68, hb, hfp]
              simp! [zf, hfp, hb]
          · have hli := last_ix hfe (by have := hf.1; omega)
            have hfp : (0 : Int) < ((f.length : Nat) : Int) := by have := List.length_pos_iff.mpr hfe; omega
            rcases sgn_some hs1 with ⟨rfl, ht⟩ | ⟨rfl, ht⟩
            · simp! [cut1, cut0, hac, zw, zf, ht, ↓tabn76, ↓tab76, ↓hli, hfp, hb]
              simp! [hb]
            · simp! [cut1, cut0, hac, zw, zf, ht, ↓tabn68, ↓tab68, ↓hli, hfp, hb]
              simp! [hb]
        · have hb : ¬ (12 : Int) < ((f.length : Nat) : Int) + ((n : Nat) : Int) := by omega
          have hlr : (List.replicate n g).length = n := List.length_replicate
          by_cases hfe : f = []
          · have hfp : ¬ (0 : Int) < ((f.length : Nat) : Int) := by subst hfe; simp
            have hRn : R1 (wds s) [] = R1 ((wds s).drop (i + 1)) (f ++ List.replicate n g) := by rw [hR2, if_neg (fun z => z.elim (fun z => z.1 hfe) hc12)]
            rcases sgn_some hs1 with ⟨rfl, ht⟩ | ⟨rfl, ht⟩
            · simp! [cut1, cut0, hac, zw, zf, ht, ↓tabn76, ↓tab76, hb, hfp, hmo, hrt, zg, hlr]
              simp! [zf, hfp, hb, hmo, hrt, zg, hlr]
              exact ⟨hRn, hsg hf (by omega) (.inl rfl)⟩
            · simp! [cut1, cut0, hac, zw, zf, ht, ↓tabn68, ↓tab68, hb, hfp, hmo, hrt, zg, hlr]
              simp! [zf, hfp, hb, hmo, hrt, zg, hlr]
              exact ⟨hRn, hsg hf (by omega) (.inr rfl)⟩
          · have hli := last_ix hfe (by have := hf.1; omega)
            have hfp : (0 : Int) < ((f.length : Nat) : Int) := by have := List.length_pos_iff.mpr hfe; omega
            by_cases hle : f.getLastD 0 = g
            · have hRn : R1 (wds s) [] = none := by rw [hR2, if_pos (.inl ⟨hfe, hle⟩)]
              rw [hRn]
              rw [hle] at hli
              rcases sgn_some hs1 with ⟨rfl, ht⟩ | ⟨rfl, ht⟩
              · simp! [cut1, cut0, hac, zw, zf, ht, ↓tabn76, ↓tab76, ↓hli, hfp, hb]
                simp!
              · simp! [cut1, cut0, hac, zw, zf, ht, ↓tabn68, ↓tab68, ↓hli, hfp, hb]
                simp!
            · have hRn : R1 (wds s) [] = R1 ((wds s).drop (i + 1)) (f ++ List.replicate n g) := by rw [hR2, if_neg (fun z => z.elim (fun z => hle z.2) hc12)]
              have hle' : ¬ [f.getLastD 0] = [g] := fun e => hle (by injection e)
              rcases sgn_some hs1 with ⟨rfl, ht⟩ | ⟨rfl, ht⟩
              · simp! [cut1, cut0, hac, zw, zf, ht, ↓tabn76, ↓tab76, ↓hli, hfp, hb, hle', hmo, hrt, zg, hlr]
                simp! [zf, hfp, hb, hle', hmo, hrt, zg, hlr]
                exact ⟨hRn, hsg hf (by omega) (.inl rfl)⟩
              · simp! [cut1, cut0, hac, zw, zf, ht, ↓tabn68, ↓tab68, ↓hli, hfp, hb, hle', hmo, hrt, zg, hlr]
                simp! [zf, hfp, hb, hle', hmo, hrt, zg, hlr]
                exact ⟨hRn, hsg hf (by omega) (.inr rfl)⟩
  · rintro e' ⟨f, x2, x3, x4, rfl, hR, hf⟩
    rw [List.length_map, List.drop_length] at hR
    rw [hR]
    simp!
    rfl
/-! lines -/
/-! ### lines -/
def lns (s : List Nat) : List (List Nat) := TL.spl [10] 0 [] s
theorem lns_ne (s : List Nat) : ∀ acc, TL.spl [10] 0 acc s ≠ [] := by
  induction s with
  | nil => intro acc; rw [TL.spl_nil]; simp
  | cons c r ih =>
    intro acc
    cases h : TL.pre [10] (c :: r) with
    | true => rw [TL.spl_hit h]; simp
    | false => rw [TL.spl_miss h]; exact ih _
theorem pre10 (c : Nat) (r : List Nat) : TL.pre [10] (c :: r) = decide (c = 10) := by
  cases h : decide (c = 10) with
  | true =>
    have := of_decide_eq_true h
    subst this
    simp [TL.pre]
  | false =>
    have := of_decide_eq_false h
    simp [TL.pre]
    omega
theorem join_lns (s : List Nat) : ∀ acc, joinD [10] (TL.spl [10] 0 acc s) = acc ++ s := by
  induction s with
  | nil => intro acc; rw [TL.spl_nil, List.append_nil]; rfl
  | cons c r ih =>
    intro acc
    by_cases hc : c = 10
    · subst hc
      rw [TL.spl_hit (by rw [pre10]; rfl)]
      have e : ([10] : List Nat).length - 1 = 0 := rfl
      rw [e]
      have hj := ih []
      cases hq : TL.spl [10] 0 [] r with
      | nil => exact absurd hq (lns_ne r [])
      | cons a l =>
        rw [hq] at hj
        show acc ++ [10] ++ joinD [10] (a :: l) = _
        rw [hj, List.nil_append, List.append_assoc]; rfl
    · rw [TL.spl_miss (by rw [pre10]; exact decide_eq_false hc), ih, List.append_assoc]; rfl
theorem splitD_lns (s : List Nat) : splitD s [10] = lns s := by
  unfold splitD lns
  rw [SX.split_S (by simp) (by decide), List.map_map]
  exact List.map_id'' (fun l => by simp [S]) _
theorem joinD_cons (g a : List Nat) {l : List (List Nat)} (h : l ≠ []) : joinD g (a :: l) = a ++ g ++ joinD g l := by
  cases l with
  | nil => exact absurd rfl h
  | cons b l => rfl
theorem joinD_sum (g : Nat) : ∀ (l : List (List Nat)), l ≠ [] → (l.map List.length).sum + l.length = (joinD [g] l).length + 1
  | [], h => absurd rfl h
  | [a], _ => by show a.length + 0 + 1 = a.length + 1; omega
  | a :: b :: l, _ => by
    have ih := joinD_sum g (b :: l) (by simp)
    have e : (joinD [g] (a :: b :: l)).length = a.length + 1 + (joinD [g] (b :: l)).length := by
      show (a ++ [g] ++ joinD [g] (b :: l)).length = _
      rw [List.length_append, List.length_append, List.length_singleton]
    rw [e]
    rw [List.map_cons, List.sum_cons, List.length_cons]
    omega
theorem mem_le_sum : ∀ {l : List (List Nat)} {w : List Nat}, w ∈ l → w.length ≤ (l.map List.length).sum
  | a :: l, w, h => by
    rw [List.map_cons, List.sum_cons]
    rcases List.mem_cons.mp h with rfl | h
    · omega
    · have := mem_le_sum h; omega
theorem sum_le {m : Nat} : ∀ {l : List (List Nat)}, (∀ w ∈ l, w.length ≤ m) → (l.map List.length).sum ≤ m * l.length
  | [], _ => by simp
  | a :: l, h => by
    have := sum_le (l := l) fun w hw => h w (.tail _ hw)
    have := h a (.head _)
    rw [List.map_cons, List.sum_cons, List.length_cons, Nat.mul_succ]
    omega
theorem lns_len (s : List Nat) : (lns s).length ≤ s.length + 1 ∧ ∀ w ∈ lns s, w.length ≤ s.length := by
  have h := joinD_sum 10 (lns s) (lns_ne s [])
  have e : joinD [10] (lns s) = s := by rw [lns, join_lns]; rfl
  rw [e] at h
  have hp : 0 < (lns s).length := List.length_pos_iff.mpr (lns_ne s [])
  refine ⟨by omega, fun w hw => ?_⟩
  have := mem_le_sum hw
  omega
theorem lns_join {l : List (List Nat)} (hl : l ≠ []) (h : ∀ w ∈ l, 10 ∉ w) : lns (joinD [10] l) = l := by
  rw [joinD_eq]
  exact TL.spl_join (S := []) hl h
theorem wds_join {l : List (List Nat)} (hl : l ≠ []) (h : ∀ w ∈ l, 32 ∉ w) : wds (joinD [32] l) = l := by
  rw [joinD_eq]
  exact TL.spl_join (S := []) hl h
theorem mem_joinD {g : List Nat} : ∀ {l : List (List Nat)} {x : Nat}, x ∈ joinD g l → x ∈ g ∨ ∃ w ∈ l, x ∈ w
  | [], x, h => by cases h
  | [a], x, h => .inr ⟨a, .head _, h⟩
  | a :: b :: l, x, h => by
    have h : x ∈ a ++ g ++ joinD g (b :: l) := h
    rcases List.mem_append.mp h with h | h
    · rcases List.mem_append.mp h with h | h
      · exact .inr ⟨a, .head _, h⟩
      · exact .inl h
    · rcases mem_joinD h with h | ⟨w, hw, hx⟩
      · exact .inl h
      · exact .inr ⟨w, .tail _ hw, hx⟩
theorem join_gen (g : Nat) {l : List (List Nat)} (h : (l.map List.length).sum + l.length ≤ 10000) : dJoin (.str [g]) [.lst (l.map .str)] = some (.str (joinD [g] l)) := by
  have h3 : strsOf (l.map .str) = some l := by
    have := strsOf_map l id
    rwa [List.map_id] at this
  show (strsOf (l.map .str)).bind _ = _
  rw [h3]
  show (if _ then _ else _) = _
  rw [if_pos]
  show _ + _ * 1 ≤ _
  omega
/-! ### rows of a coast -/
abbrev Lt := List Nat × List Nat
def nmB (s : List Nat) : Bool := decide (1 ≤ s.length) && (decide (s.length ≤ 8) && s.all fun c => decide (97 ≤ c ∧ c ≤ 122))
theorem nmB_iff {s : List Nat} : nmB s = true ↔ IsName s := by
  unfold nmB IsName
  rw [Bool.and_eq_true, Bool.and_eq_true, decide_eq_true_eq, decide_eq_true_eq, List.all_eq_true]
  exact ⟨fun ⟨a, b, c⟩ => ⟨a, b, fun x hx => of_decide_eq_true (c x hx)⟩, fun ⟨a, b, c⟩ => ⟨a, b, fun x hx => decide_eq_true (c x hx)⟩⟩
def nm (w : List Nat) : List Nat := (wds w).headD []
def rd (w : List Nat) : Option (List Nat) := R1 (wds (joinD [32] ((wds w).drop 1))) []
def badR (w : List Nat) (L : List Lt) : Bool := !nmB (nm w) || (decide (nm w ∈ L.map (·.1)) || ((rd w).isNone || decide (L.length = 12)))
def RC : List (List Nat) → Nat → List Lt → Nat ⊕ List Lt
  | [], _, L => .inr L
  | w :: ws, i, L => if badR w L then .inl (i + 1) else RC ws (i + 1) (L ++ [(nm w, (rd w).getD [])])
def rowT (p : Lt) : List Nat := p.1 ++ [32] ++ tx p.2
theorem rle_ne {c : List Nat} (hc : c ≠ []) : rle c ≠ [] := fun e => hc (by have := flat_rle c; rw [e] at this; exact this.symm)
theorem name_free {s : List Nat} (h : IsName s) : 32 ∉ s ∧ 10 ∉ s := ⟨fun z => by have := h.2.2 _ z; omega, fun z => by have := h.2.2 _ z; omega⟩
theorem dstr_free10 : ∀ n, n ≤ 12 → 10 ∉ dstr n := by decide +kernel
theorem char_ne {c : List Nat} (h : IsChar c) : c ≠ [] := fun e => by have := h.1; rw [e] at this; simp at this
theorem char_sg {c : List Nat} (h : IsChar c) : Sg c := ⟨h.2.1, h.2.2⟩
theorem wds_row {p : Lt} (h1 : IsName p.1) (hc : IsChar p.2) : wds (rowT p) = p.1 :: (rle p.2).map wdP := by
  have hne : (rle p.2).map wdP ≠ [] := fun e => rle_ne (char_ne hc) (List.map_eq_nil_iff.mp e)
  have e : rowT p = joinD [32] (p.1 :: (rle p.2).map wdP) := by rw [joinD_cons _ _ hne, ← tx_rle]; rfl
  rw [e]
  refine wds_join (by simp) fun w hw => ?_
  rcases List.mem_cons.mp hw with rfl | hw
  · exact (name_free h1).1
  · obtain ⟨q, hq, rfl⟩ := List.mem_map.mp hw
    exact wdP_free ((spl_tx (char_ne hc) (char_sg hc)).2 q hq).2.2
theorem row_read {p : Lt} (h1 : IsName p.1) (hc : IsChar p.2) : nm (rowT p) = p.1 ∧ rd (rowT p) = some p.2 := by
  unfold nm rd
  rw [wds_row h1 hc]
  refine ⟨rfl, ?_⟩
  show R1 (wds (joinD [32] ((rle p.2).map wdP))) [] = _
  rw [← tx_rle]
  exact R1_tx (char_ne hc) (char_sg hc)
theorem tx_free {c : List Nat} (hc : IsChar c) : 10 ∉ tx c := fun h => by
  rw [tx_rle] at h
  rcases mem_joinD h with h | ⟨w, hw, hx⟩
  · simp at h
  · obtain ⟨q, hq, rfl⟩ := List.mem_map.mp hw
    unfold wdP at hx
    rcases List.mem_append.mp hx with hx | hx
    · split at hx <;> simp at hx
    · exact dstr_free10 _ ((spl_tx (char_ne hc) (char_sg hc)).2 q hq).2.2 hx
theorem row_free {p : Lt} (h1 : IsName p.1) (hc : IsChar p.2) : 10 ∉ rowT p := fun h => by
  rcases List.mem_append.mp h with h | h
  · rcases List.mem_append.mp h with h | h
    · exact (name_free h1).2 h
    · simp at h
  · exact tx_free hc h
theorem join_le4 : ∀ {l : List (List Nat)}, (∀ c ∈ l, c.length ≤ 3) → (joinD [32] l).length ≤ 4 * l.length
  | [], _ => by simp [joinD]
  | [c], h => by have := h c (.head _); show c.length ≤ 4; omega
  | c :: d :: l, h => by
    have := join_le4 (l := d :: l) fun c hc => h c (.tail _ hc)
    have hc := h c (.head _)
    show (c ++ [32] ++ joinD [32] (d :: l)).length ≤ _
    rw [List.length_append, List.length_append, List.length_cons (a := c), List.length_singleton]
    omega
theorem tx_len {c : List Nat} (hc : c ≠ []) (hs : Sg c) : 1 ≤ (tx c).length ∧ (tx c).length ≤ 48 := by
  have h12 := hs.1
  refine ⟨?_, ?_⟩
  · cases h : tx c with
    | nil =>
      have := R1_tx hc hs
      rw [h] at this
      have e : R1 (wds []) [] = none := rfl
      rw [e] at this
      cases this
    | cons a b => simp
  · have h1 := join_le4 (fw_words c h12 c.length (Nat.le_refl _))
    have h2 := (fw_le c c.length).2
    unfold tx
    omega
theorem row_len {p : Lt} (h1 : IsName p.1) (hc : IsChar p.2) : (rowT p).length ≤ 57 := by
  have := h1.2.1
  have := (tx_len (char_ne hc) (char_sg hc)).2
  unfold rowT
  rw [List.length_append, List.length_append, List.length_singleton]
  omega
theorem badR_row {p : Lt} (h1 : IsName p.1) (hc : IsChar p.2) (K : List Lt) : badR (rowT p) K = (decide (p.1 ∈ K.map (·.1)) || decide (K.length = 12)) := by
  obtain ⟨e1, e2⟩ := row_read h1 hc
  unfold badR
  rw [e1, e2, nmB_iff.mpr h1]
  simp
theorem RC_good : ∀ (A : List Lt) (ws : List (List Nat)) (i : Nat) (K : List Lt), (∀ p ∈ A, IsName p.1 ∧ IsChar p.2) → ((K ++ A).map (·.1)).Nodup → K.length + A.length ≤ 12 → RC (A.map rowT ++ ws) i K = RC ws (i + A.length) (K ++ A)
  | [], ws, i, K, _, _, _ => by simp
  | p :: A, ws, i, K, h, hn, hl => by
    obtain ⟨h1, h2⟩ := h p (.head _)
    have hni : p.1 ∉ K.map (·.1) := fun z => by
      rw [List.map_append, List.map_cons, List.nodup_append] at hn
      exact hn.2.2 p.1 z p.1 (.head _) rfl
    rw [List.length_cons] at hl
    have nb : badR (rowT p) K = false := by
      rw [badR_row h1 h2, decide_eq_false hni, decide_eq_false (by omega)]; rfl
    obtain ⟨e1, e2⟩ := row_read h1 h2
    have ih := RC_good A ws (i + 1) (K ++ [p]) (fun q hq => h q (.tail _ hq)) (by rw [List.append_assoc]; exact hn) (by rw [List.length_append, List.length_singleton]; omega)
    have e3 : RC (rowT p :: (A.map rowT ++ ws)) i K = if badR (rowT p) K then .inl (i + 1) else RC (A.map rowT ++ ws) (i + 1) (K ++ [(nm (rowT p), (rd (rowT p)).getD [])]) := rfl
    have e4 : RC (rowT p :: (A.map rowT ++ ws)) i K = RC (A.map rowT ++ ws) (i + 1) (K ++ [p]) := by rw [e3, nb, e1, e2]; rfl
    show RC (rowT p :: (A.map rowT ++ ws)) i K = _
    rw [e4, ih, List.length_cons, show i + 1 + A.length = i + (A.length + 1) by omega, List.append_assoc, List.singleton_append]
theorem RC_bad {A : List Lt} {w : List Nat} {ws : List (List Nat)} (h : ∀ p ∈ A, IsName p.1 ∧ IsChar p.2) (hn : (A.map (·.1)).Nodup) (hl : A.length ≤ 12) (hb : badR w A = true) : RC (A.map rowT ++ w :: ws) 0 [] = .inl (A.length + 1) := by
  rw [RC_good A (w :: ws) 0 [] h (by simpa using hn) (by simpa using hl)]
  unfold RC
  rw [List.nil_append, hb, if_pos rfl, Nat.zero_add]
theorem RC_all {A : List Lt} (h : ∀ p ∈ A, IsName p.1 ∧ IsChar p.2) (hn : (A.map (·.1)).Nodup) (hl : A.length ≤ 12) : RC (A.map rowT) 0 [] = .inr A := by
  have := RC_good A [] 0 [] h (by simpa using hn) (by simpa using hl)
  rw [List.append_nil] at this
  rw [this]; rfl
theorem RC_13 {A : List Lt} (h : ∀ p ∈ A, IsName p.1 ∧ IsChar p.2) (hn : (A.map (·.1)).Nodup) (hl : A.length = 13) : RC (A.map rowT) 0 [] = .inl 13 := by
  have e : A = A.take 12 ++ A.drop 12 := (List.take_append_drop 12 A).symm
  have hd : (A.drop 12).length = 1 := by rw [List.length_drop]; omega
  have ht : (A.take 12).length = 12 := by rw [List.length_take]; omega
  obtain ⟨q, hq⟩ := List.length_eq_one_iff.mp hd
  rw [hq] at e
  have hq2 := h q (by rw [e]; simp)
  rw [e, List.map_append]
  have := RC_bad (A := A.take 12) (w := rowT q) (ws := []) (fun p hp => h p (List.mem_of_mem_take hp)) (hn.sublist ((List.take_sublist 12 A).map _)) (by omega) (by rw [badR_row hq2.1 hq2.2, ht]; simp)
  rw [ht] at this
  exact this
theorem R1_sg : ∀ {ws : List (List Nat)} {f g : List Nat}, R1 ws f = some g → Sg f → (ws ≠ [] ∨ f ≠ []) → Sg g ∧ g ≠ []
  | [], f, g, h, hs, hn => by
    cases h
    exact ⟨hs, hn.elim (fun z => absurd rfl z) id⟩
  | w :: ws, f, g, h, hs, _ => by
    unfold R1 at h
    cases hp : pw w with
    | none => rw [hp] at h; cases h
    | some q =>
      rw [hp] at h
      dsimp only at h
      split at h
      · cases h
      · rename_i hc
        obtain ⟨_, h2, h3, _⟩ := pw_some hp
        refine R1_sg h ⟨?_, fun x hx => ?_⟩ (.inr (last_rep f h3).2)
        · rw [List.length_append, List.length_replicate]
          have : ¬ 12 < f.length + q.2 := fun z => hc (.inr z)
          omega
        · rcases List.mem_append.mp hx with hx | hx
          · exact hs.2 x hx
          · rw [List.eq_of_mem_replicate hx]; exact h2
theorem rd_char {w c : List Nat} (h : rd w = some c) : IsChar c := by
  obtain ⟨h1, h2⟩ := R1_sg h ⟨by simp, fun x hx => by cases hx⟩ (.inl (wds_ne _ _))
  exact ⟨List.length_pos_iff.mpr h2, h1.1, h1.2⟩
theorem badR_false {w : List Nat} {L : List Lt} (h : badR w L = false) : IsName (nm w) ∧ nm w ∉ L.map (·.1) ∧ (∃ c, rd w = some c) ∧ L.length ≠ 12 := by
  unfold badR at h
  rw [Bool.or_eq_false_iff, Bool.or_eq_false_iff, Bool.or_eq_false_iff] at h
  obtain ⟨a, b, c, d⟩ := h
  refine ⟨nmB_iff.mp (by simpa using a), of_decide_eq_false b, ?_, of_decide_eq_false d⟩
  cases hr : rd w with
  | none => rw [hr] at c; cases c
  | some c => exact ⟨c, rfl⟩
/-- rows that no light has -/
theorem bad_fix : ∀ w ∈ ([[], [97], [65, 32, 76, 49], [97, 32, 76, 48], [97, 32, 32, 76, 49], [32, 76, 49], [97, 32, 76, 49, 32, 76, 49], [97, 32, 76, 49, 51], [97, 98, 99, 100, 101, 102, 103, 104, 105, 32, 76, 49]] : List (List Nat)), (nmB (nm w) = false ∨ rd w = none) ∧ w.length ≤ 60 ∧ 10 ∉ w := by decide +kernel
theorem badR_of {w : List Nat} (h : nmB (nm w) = false ∨ rd w = none) (L : List Lt) : badR w L = true := by
  unfold badR
  rcases h with h | h
  · rw [h]; rfl
  · rw [h]; simp
theorem bad_name {s : List Nat} (h : IsName s) : rd s = none := by
  have e : wds s = [s] := wds_join (l := [s]) (by simp) fun w hw => by rw [List.mem_singleton.mp hw]; exact (name_free h).1
  unfold rd
  rw [e]
  show R1 (wds []) [] = none
  rfl
theorem bad_tail {p : Lt} (h1 : IsName p.1) (hc : IsChar p.2) : rd (rowT p ++ [32]) = none := by
  have hne : (rle p.2).map wdP ≠ [] := fun e => rle_ne (char_ne hc) (List.map_eq_nil_iff.mp e)
  have hfr : ∀ w ∈ (rle p.2).map wdP, 32 ∉ w := fun w hw => by
    obtain ⟨q, hq, rfl⟩ := List.mem_map.mp hw
    exact wdP_free ((spl_tx (char_ne hc) (char_sg hc)).2 q hq).2.2
  have hj : ∀ l : List (List Nat), l ≠ [] → joinD [32] l ++ [32] = joinD [32] (l ++ [[]]) := by
    intro l
    induction l with
    | nil => intro h; exact absurd rfl h
    | cons a l ih =>
      intro _
      cases l with
      | nil => show a ++ [32] = a ++ [32] ++ []; rw [List.append_nil]
      | cons b l =>
        have := ih (by simp)
        show a ++ [32] ++ joinD [32] (b :: l) ++ [32] = a ++ [32] ++ joinD [32] (b :: l ++ [[]])
        rw [List.append_assoc (a ++ [32]), this]
  have e : rowT p ++ [32] = joinD [32] (p.1 :: ((rle p.2).map wdP ++ [[]])) := by
    rw [joinD_cons _ _ (by simp), ← hj _ hne, ← tx_rle, ← List.append_assoc]; rfl
  have e2 : wds (rowT p ++ [32]) = p.1 :: ((rle p.2).map wdP ++ [[]]) := by
    rw [e]
    refine wds_join (by simp) fun w hw => ?_
    rcases List.mem_cons.mp hw with rfl | hw
    · exact (name_free h1).1
    · rcases List.mem_append.mp hw with hw | hw
      · exact hfr w hw
      · rw [List.mem_singleton.mp hw]; simp
  unfold rd
  rw [e2]
  show R1 (wds (joinD [32] ((rle p.2).map wdP ++ [[]]))) [] = none
  rw [wds_join (by simp) fun w hw => by
    rcases List.mem_append.mp hw with hw | hw
    · exact hfr w hw
    · rw [List.mem_singleton.mp hw]; simp]
  exact (R_none ⟨[], by simp, rfl⟩ []).1
/-! rdrows -/
/-! ### coasts as text -/
theorem okF_two {r : FR} {P : D → Prop} {Q : Str → List (Str × D) → Prop} (h : OkF r P Q) : (∃ d, r = .ok d ∧ P d) ∨ ∃ c fs, r = .exc c fs ∧ Q c fs := by
  cases r with
  | ok d => rw [OkF_ok] at h; exact .inl ⟨d, rfl, h⟩
  | exc c fs => rw [OkF_exc] at h; exact .inr ⟨c, fs, rfl, h⟩
  | stk => exact absurd h (by unfold OkF; exact id)
theorem is_name_any {s : List Nat} (hs : s.length ≤ 900) : F_is_name [.str s] = .ok (.bl (nmB s)) := by
  have hz := small_sz (show s.length ≤ 1000 by omega)
  apply okF_of
  unfold F_is_name d_is_name
  by_cases h1 : 1 ≤ s.length
  · have h1' : (1 : Int) ≤ (s.length : Nat) := by omega
    by_cases h2 : s.length ≤ 8
    · have h2' : ((s.length : Nat) : Int) ≤ 8 := by omega
      simp! [hz, h1', h2']
      refine Ok_Lc_pure (fun _ => true) (fun d => match d with | .str [c] => .bl (decide (97 ≤ c ∧ c ≤ 122)) | _ => .non) ?_
      simp!
      refine ⟨by rw [List.length_map]; exact hz, fun d hd => ?_, ?_⟩
      · obtain ⟨c, hc, rfl⟩ := List.mem_map.mp hd
        have e : decide (c ∈ [97, 98, 99, 100, 101, 102, 103, 104, 105, 106, 107, 108, 109, 110, 111, 112, 113, 114, 115, 116, 117, 118, 119, 120, 121, 122]) = decide (97 ≤ c ∧ c ≤ 122) := by
          rw [decide_eq_decide]
          simp only [List.mem_cons, List.not_mem_nil, or_false]
          omega
        simp! [e]
      · rw [List.filter_eq_self.mpr (fun _ _ => rfl), List.map_map]
        have := dAll_map s fun c => decide (97 ≤ c ∧ c ≤ 122)
        have e2 : s.map ((fun d => match d with | .str [c] => D.bl (decide (97 ≤ c ∧ c ≤ 122)) | _ => .non) ∘ fun c => D.str [c]) = s.map fun c => D.bl (decide (97 ≤ c ∧ c ≤ 122)) := rfl
        rw [e2]
        have e3 : nmB s = s.all fun c => decide (97 ≤ c ∧ c ≤ 122) := by unfold nmB; rw [decide_eq_true h1, decide_eq_true h2]; rfl
        rw [e3]
        simp! [this]
    · have h2' : ¬ ((s.length : Nat) : Int) ≤ 8 := by omega
      have e3 : nmB s = false := by unfold nmB; rw [decide_eq_false h2]; simp
      rw [e3]
      simp! [hz, h1', h2']
  · have h1' : ¬ (1 : Int) ≤ (s.length : Nat) := by omega
    have e3 : nmB s = false := by unfold nmB; rw [decide_eq_false h1]; rfl
    rw [e3]
    simp! [hz, h1']
theorem ans_s (f : List Nat) : ansO (some f) = .str f := rfl
theorem ans_n : ansO none = .non := rfl
theorem read_coast_two {s : List Nat} (hs : s.length ≤ 900) : (∃ d, F_read_coast [.str s] = .ok d ∧ ∃ L, RC (lns s) 0 [] = .inr L ∧ d = coastD L) ∨ ∃ c fs, F_read_coast [.str s] = .exc c fs ∧ (c = "BadRow" ∧ ∃ n : Nat, RC (lns s) 0 [] = .inl n ∧ fs = [(("value" : Str), D.int (n : Nat))]) := by
  have hz := small_sz (show s.length ≤ 1000 by omega)
  have hsp : dSplit (.str s) [.str [10]] = some (.lst ((lns s).map .str)) := by
    show (if _ then _ else _) = _
    rw [if_pos ⟨by decide, by omega⟩, splitD_lns]
  obtain ⟨hwn, hwl⟩ := lns_len s
  have hzl : ((lns s).map D.str).length ≤ sizeLine := small_sz (by rw [List.length_map]; omega)
  have hne : 0 < (lns s).length := List.length_pos_iff.mpr (lns_ne s [])
  apply okF_two
  unfold F_read_coast d_read_coast
  simp! [hz, hsp, hzl]
  refine Po_for_of (fun i e' => ∃ (L : List Lt) (x2 x3 x4 x5 x6 x7 x8 x9 : Option D), e' = [some (.str s), some (.lst (L.map lD)), x2, x3, x4, x5, x6, x7, x8, x9] ∧ RC (lns s) 0 [] = RC ((lns s).drop i) i L ∧ L.length = i ∧ (∀ p ∈ L, IsName p.1 ∧ IsChar p.2) ∧ (L.map (·.1)).Nodup ∧ L.length ≤ 12) ⟨[], _, _, _, _, _, _, _, _, rfl, rfl, rfl, fun p hp => (by cases hp), List.nodup_nil, Nat.zero_le _⟩ ?_ ?_
  · rintro i d e' hd ⟨L, x2, x3, x4, x5, x6, x7, x8, x9, rfl, hR, hLl, hc, hnd, h12⟩
    obtain ⟨x, hx, rfl⟩ := enumD_get hd
    rw [List.getElem?_map] at hx
    obtain ⟨w, hw, rfl⟩ := Option.map_eq_some_iff.mp hx
    have hwm : w ∈ lns s := List.mem_of_getElem? hw
    have hdr : (lns s).drop i = w :: (lns s).drop (i + 1) := by
      obtain ⟨h1, h2⟩ := List.getElem?_eq_some_iff.mp hw
      rw [List.drop_eq_getElem_cons h1, h2]
    have hw1 := hwl w hwm
    have zw := small_sz (show w.length ≤ 1000 by omega)
    have hR' : RC (w :: (lns s).drop (i + 1)) i L = if badR w L then .inl (i + 1) else RC ((lns s).drop (i + 1)) (i + 1) (L ++ [(nm w, (rd w).getD [])]) := rfl
    rw [hdr, hR'] at hR
    have hspw : dSplit (.str w) [.str [32]] = some (.lst ((wds w).map .str)) := by
      show (if _ then _ else _) = _
      rw [if_pos ⟨by decide, by omega⟩, splitD_wds]
    have hsum := joinD_sum 32 (wds w) (wds_ne w [])
    have hjw : joinD [32] (wds w) = w := by rw [wds, join_wds]; rfl
    rw [hjw] at hsum
    cases hq : wds w with
    | nil => exact absurd hq (wds_ne w [])
    | cons a r =>
      have hnm : nm w = a := by unfold nm; rw [hq]; rfl
      have hrd : rd w = R1 (wds (joinD [32] r)) [] := by unfold rd; rw [hq]; rfl
      rw [hq, List.map_cons] at hspw
      rw [hq, List.map_cons, List.sum_cons, List.length_cons] at hsum
      have ix0 : dIx (.lst (.str a :: r.map .str)) (.int 0) = some (.str a) := by
        have := atI_nat (xs := D.str a :: r.map D.str) (j := 0) (v := .str a) rfl
        have e0 : ((0 : Nat) : Int) = 0 := rfl
        rw [e0] at this
        simp [dIx, this]
      have cut : L3.cutD (D.str a :: r.map D.str) (some 1) none = r.map D.str := cutD_from _ 1
      have hj := join_gen 32 (l := r) (by omega)
      have hjl : (joinD [32] r).length ≤ 900 := by
        by_cases hr : r = []
        · rw [hr]; simp [joinD]
        · have := joinD_sum 32 r hr; omega
      have hci := character_in_spec (s := joinD [32] r) hjl
      have hna := is_name_any (s := a) (by omega)
      have hin := dIn_strs a (L.map (·.1))
      rw [← hrd] at hci
      have he : ((i : Nat) : Int) + 1 = ((i + 1 : Nat) : Int) := by omega
      have hLz : (L.map lD).length ≤ sizeLine := small_sz (by rw [List.length_map]; omega)
      simp! [zw, hspw, ix0, cut, hj, hci]
      refine Ok_Lc_pureS (fun _ => true) (fun d => match d with | .tup [x, _] => x | _ => .non) rfl ?_
      simp!
      refine ⟨hLz, fun d hd => ?_, ?_⟩
      · obtain ⟨p, hp, rfl⟩ := List.mem_map.mp hd
        have e1 : lD p = .tup [.str p.1, .str p.2] := rfl
        rw [e1]
        simp!
      have em : ((L.map lD).filter fun _ => true).map (fun d => match d with | .tup [x, _] => x | _ => .non) = (L.map (·.1)).map .str := by
        rw [List.filter_eq_self.mpr (fun _ _ => rfl), List.map_map, List.map_map]; rfl
      rw [em]
      have ml := List.length_map (as := L) lD
      cases hb : badR w L with
      | true =>
        rw [hb, if_pos rfl] at hR
        unfold badR at hb
        rw [hnm] at hb
        cases hn : nmB a with
        | false =>
          rw [hn] at hna
          simp! [hna, he]
          exact ⟨_, hR, rfl⟩
        | true =>
          rw [hn] at hna
          by_cases hm : a ∈ L.map (·.1)
          · rw [decide_eq_true hm] at hin
            simp! [hna, hin, he]
            exact ⟨_, hR, rfl⟩
          · rw [decide_eq_false hm] at hin
            cases hrc : rd w with
            | none =>
              simp! [hna, hin, he, ans_n]
              exact ⟨_, hR, rfl⟩
            | some c =>
              rw [hn, hrc, decide_eq_false hm] at hb
              have hl : L.length = 12 := by simpa using hb
              have hlI : (((L.map lD).length : Nat) : Int) = 12 := by rw [ml]; omega
              simp! [hna, hin, he, ans_s, hLz, hlI]
              exact ⟨_, hR, rfl⟩
      | false =>
        rw [hb, if_neg (by simp)] at hR
        obtain ⟨b1, b2, ⟨c, b3⟩, b4⟩ := badR_false hb
        rw [hnm] at b1 b2
        rw [nmB_iff.mpr b1] at hna
        rw [decide_eq_false b2] at hin
        rw [hnm, b3] at hR
        have hlI : ¬ (((L.map lD).length : Nat) : Int) = 12 := by rw [ml]; omega
        rw [b3]
        have hmu : muAppend (L.map lD) [.tup [.str a, .str c]] = some ((L ++ [(a, c)]).map lD) := by
          rw [List.map_append]; exact muApp (small_lt (by rw [ml]; omega))
        simp! [hna, hin, ans_s, hLz, hlI, hmu]
        refine ⟨L ++ [(a, c)], _, _, _, _, _, _, _, _, rfl, hR, by rw [List.length_append, hLl]; rfl, fun p hp => ?_, ?_, by rw [List.length_append, List.length_singleton]; omega⟩
        · rcases List.mem_append.mp hp with hp | hp
          · exact hc p hp
          · rw [List.mem_singleton.mp hp]; exact ⟨b1, rd_char b3⟩
        · rw [List.map_append, List.nodup_append]
          exact ⟨hnd, by simp, fun x hx y hy => by rw [List.mem_singleton.mp hy]; exact fun e => b2 (by have e : x = a := e; rw [← e]; exact hx)⟩
  · rintro e' ⟨L, x2, x3, x4, x5, x6, x7, x8, x9, rfl, hR, hLl, hc, hnd, h12⟩
    rw [enumD_len, List.length_map] at hR hLl
    rw [List.drop_length] at hR
    have hL : IsCoast L := ⟨by omega, h12, hc, hnd⟩
    simp! [coast_init_spec hL]
    exact ⟨L, hR, rfl⟩
theorem coast_lights (L : List Lt) : fldD "Coast" "lights" (coastD L) = some (.tup (L.map lD)) := by
  unfold coastD; simp [fldD, fldOf]
def toldO : Nat ⊕ List Lt → D
  | .inl n => .tup [.bl true, .int (n : Nat)]
  | .inr L => .lst [.tup (L.map lD)]
theorem told_bad {d : D} {n : Nat} (e : F_read_coast [d] = .exc "BadRow" [("value", .int (n : Nat))]) : F_law_told [d] = .ok (.tup [.bl true, .int (n : Nat)]) := by
  apply okF_of; unfold F_law_told d_law_told
  simp! [e]
  decide +kernel
theorem told_str {s : List Nat} (hs : s.length ≤ 900) : F_law_told [.str s] = .ok (toldO (RC (lns s) 0 [])) := by
  rcases read_coast_two hs with ⟨d, e, L, hR, rfl⟩ | ⟨c, fs, e, rfl, n, hR, rfl⟩
  · rw [hR]
    apply okF_of; unfold F_law_told d_law_told
    have ef := coast_lights L
    generalize coastD L = cL at e ef
    simp! [e, ↓ef]
    rfl
  · rw [hR]
    exact told_bad e
theorem isstr_no {d : D} {T : String} (hT : tyD d = some T) (h1 : isaB T "str" = false) : dIsa "str" d = some (.bl false) := by unfold dIsa; rw [hT]; simp [h1]
theorem told_no {d : D} {T : String} (hT : tyD d = some T) (h1 : isaB T "str" = false) : F_law_told [d] = .ok (.tup [.bl true, .int ((0 : Nat) : Int)]) := by
  have e := isstr_no hT h1
  apply told_bad
  apply okF_exc
  unfold F_read_coast d_read_coast
  simp! [↓e]
  rfl
theorem sum_rows {L : List Lt} (h : ∀ p ∈ L, IsName p.1 ∧ IsChar p.2) : ((L.map rowT).map List.length).sum ≤ 57 * L.length := by
  have := sum_le (m := 57) (l := L.map rowT) fun w hw => by
    obtain ⟨p, hp, rfl⟩ := List.mem_map.mp hw
    exact row_len (h p hp).1 (h p hp).2
  rwa [List.length_map] at this
theorem join_rows {L : List Lt} (hL : L.length ≤ 13) (h : ∀ p ∈ L, IsName p.1 ∧ IsChar p.2) : dJoin (.str [10]) [.lst ((L.map rowT).map .str)] = some (.str (joinD [10] (L.map rowT))) := by
  have := sum_rows h
  exact join_gen 10 (by rw [List.length_map]; omega)
def rowF : D → D
  | .tup [.str a, .str b] => .str (a ++ [32] ++ tx b)
  | _ => .non
theorem rowF_map (L : List Lt) : ((L.map lD).filter fun _ => true).map rowF = (L.map rowT).map .str := by
  rw [List.filter_eq_self.mpr (fun _ _ => rfl), List.map_map, List.map_map]; rfl
theorem coast_text_spec {L : List Lt} (hL : IsCoast L) : F_coast_text [coastD L] = .ok (.str (joinD [10] (L.map rowT))) := by
  have hj := join_rows (by have := hL.2.1; omega) hL.2.2.1
  have ef := coast_lights L
  have hLz : (L.map lD).length ≤ sizeLine := small_sz (by rw [List.length_map]; have := hL.2.1; omega)
  apply okF_of; unfold F_coast_text d_coast_text
  generalize coastD L = cL at ef ⊢
  simp!
  refine Ok_Lc_pure (fun _ => true) rowF ?_
  simp! [↓ef]
  refine ⟨hLz, fun d hd => ?_, ?_⟩
  · obtain ⟨p, hp, rfl⟩ := List.mem_map.mp hd
    obtain ⟨h1, h2⟩ := hL.2.2.1 p hp
    have e1 : lD p = .tup [.str p.1, .str p.2] := rfl
    have ht := text_of_spec (char_sg h2)
    have hl := row_len h1 h2
    have hl' : (p.1 ++ [32] ++ tx p.2).length ≤ 57 := hl
    rw [List.length_append, List.length_append] at hl'
    have hl' : p.1.length + 1 + (tx p.2).length ≤ 57 := hl'
    have z1 := small_sz (show p.1.length + 1 ≤ 1000 by omega)
    have z2 := small_sz (show (p.1 ++ [32]).length + (tx p.2).length ≤ 1000 by rw [List.length_append, List.length_singleton]; omega)
    have z3 := small_sz (show p.1.length + 1 + (tx p.2).length ≤ 1000 by omega)
    rw [e1]
    simp! [ht, z1, z2, z3, rowF]
  rw [rowF_map]
  simp! [hj]
--CUT
def lt26 : List Nat := [97, 98, 99, 100, 101, 102, 103, 104, 105, 106, 107, 108, 109, 110, 111, 112, 113, 114, 115, 116, 117, 118, 119, 120, 121, 122]
def fre (L : List Lt) : List Nat := lt26.filter fun c => !decide ([c] ∈ L.map (·.1))
theorem filter_two {α : Type} (p : α → Bool) : ∀ l : List α, l.length = (l.filter p).length + (l.filter fun x => !p x).length
  | [] => rfl
  | a :: l => by
    have ih := filter_two p l
    cases h : p a <;> simp [h] <;> omega
theorem fre_len (L : List Lt) : 26 ≤ (fre L).length + L.length := by
  have h2 := filter_two (fun c => decide ([c] ∈ L.map (·.1))) lt26
  have h1 := len_sub ((lt26.filter fun c => decide ([c] ∈ L.map (·.1))).map fun c => [c]) (L.map (·.1)) ((show (lt26.map fun c => [c]).Nodup by decide +kernel).sublist (List.filter_sublist.map _)) fun x hx => by
    obtain ⟨c, hc, rfl⟩ := List.mem_map.mp hx
    exact of_decide_eq_true (List.mem_filter.mp hc).2
  rw [List.length_map, List.length_map] at h1
  have h3 : lt26.length = 26 := rfl
  have h4 : (lt26.filter fun c => !decide ([c] ∈ L.map (·.1))).length = (fre L).length := rfl
  omega
def ext (L : List Lt) : List Lt := ((fre L).take (13 - L.length)).map fun c => ([c], [46, 46])
theorem tx2 : tx [46, 46] = [68, 50] := by decide +kernel
theorem ext_rows (L : List Lt) : (ext L).map rowT = ((fre L).take (13 - L.length)).map fun c => [c, 32, 68, 50] := by
  unfold ext
  rw [List.map_map]
  refine congrArg (fun f => List.map f _) (funext fun c => ?_)
  show [c] ++ [32] ++ tx [46, 46] = _
  rw [tx2]; rfl
theorem fre_mem {L : List Lt} {c : Nat} (h : c ∈ fre L) : (97 ≤ c ∧ c ≤ 122) ∧ [c] ∉ L.map (·.1) := by
  obtain ⟨h1, h2⟩ := List.mem_filter.mp h
  refine ⟨?_, by simpa using h2⟩
  have : ∀ c ∈ lt26, 97 ≤ c ∧ c ≤ 122 := by decide +kernel
  exact this c h1
theorem ext_ok {L : List Lt} (hL : IsCoast L) : (L ++ ext L).length = 13 ∧ (∀ p ∈ L ++ ext L, IsName p.1 ∧ IsChar p.2) ∧ ((L ++ ext L).map (·.1)).Nodup := by
  have hf := fre_len L
  refine ⟨?_, fun p hp => ?_, ?_⟩
  · have := hL.2.1
    rw [List.length_append, ext, List.length_map, List.length_take]
    omega
  · rcases List.mem_append.mp hp with hp | hp
    · exact hL.2.2.1 p hp
    · obtain ⟨c, hc, rfl⟩ := List.mem_map.mp hp
      have := (fre_mem (List.mem_of_mem_take hc)).1
      exact ⟨⟨by simp, by simp, fun x hx => by rw [List.mem_singleton.mp hx]; exact this⟩, ⟨by simp, by simp, fun x hx => by simp at hx; exact .inr hx⟩⟩
  · rw [List.map_append, List.nodup_append]
    refine ⟨hL.2.2.2, ?_, ?_⟩
    · unfold ext
      rw [List.map_map]
      have h1 : (lt26.map fun c => [c]).Nodup := by decide +kernel
      exact h1.sublist (((List.take_sublist _ _).trans List.filter_sublist).map _)
    · intro a ha b hb e
      obtain ⟨p, hp, rfl⟩ := List.mem_map.mp hb
      obtain ⟨c, hc, rfl⟩ := List.mem_map.mp hp
      exact (fre_mem (List.mem_of_mem_take hc)).2 (by have e : a = [c] := e; rw [← e]; exact ha)
theorem joinD_snoc (g a : List Nat) : ∀ {l : List (List Nat)}, l ≠ [] → joinD g (l ++ [a]) = joinD g l ++ g ++ a
  | [], h => absurd rfl h
  | [b], _ => rfl
  | b :: c :: l, _ => by
    have ih := joinD_snoc g a (l := c :: l) (by simp)
    show b ++ g ++ joinD g (c :: l ++ [a]) = b ++ g ++ joinD g (c :: l) ++ g ++ a
    rw [ih]
    simp only [List.append_assoc]
theorem rows_free {A : List Lt} (h : ∀ p ∈ A, IsName p.1 ∧ IsChar p.2) : ∀ w ∈ A.map rowT, 10 ∉ w := fun w hw => by
  obtain ⟨p, hp, rfl⟩ := List.mem_map.mp hw
  exact row_free (h p hp).1 (h p hp).2
theorem len_joinD {m n : Nat} {l : List (List Nat)} (h : ∀ w ∈ l, w.length ≤ m) (hn : l.length ≤ n) (hmn : (m + 1) * n ≤ 900) : (l.map List.length).sum + l.length ≤ 900 ∧ (joinD [10] l).length ≤ 900 := by
  have h1 := sum_le h
  have h2 : m * l.length ≤ m * n := Nat.mul_le_mul_left m hn
  have h3 : (m + 1) * n = m * n + n := Nat.succ_mul m n
  refine ⟨by omega, ?_⟩
  by_cases hl : l = []
  · rw [hl]; simp [joinD]
  · have := joinD_sum 10 l hl
    omega
theorem rows_len {A : List Lt} (h : ∀ p ∈ A, IsName p.1 ∧ IsChar p.2) : ∀ w ∈ A.map rowT, w.length ≤ 60 := fun w hw => by
  obtain ⟨p, hp, rfl⟩ := List.mem_map.mp hw
  have := row_len (h p hp).1 (h p hp).2
  omega
/-- a text of rows, told -/
theorem told_rows {l : List (List Nat)} (h0 : l ≠ []) (h1 : ∀ w ∈ l, w.length ≤ 60) (h2 : l.length ≤ 14) (h3 : ∀ w ∈ l, 10 ∉ w) : F_law_told [.str (joinD [10] l)] = .ok (toldO (RC l 0 [])) ∧ dJoin (.str [10]) [.lst (l.map .str)] = some (.str (joinD [10] l)) ∧ (joinD [10] l).length ≤ 900 := by
  obtain ⟨e1, e2⟩ := len_joinD h1 h2 (by omega)
  have := told_str e2
  rw [lns_join h0 h3] at this
  exact ⟨this, join_gen 10 (by omega), e2⟩
theorem told_wrong {L : List Lt} (hL : IsCoast L) {a : Nat} (ha : a < L.length) {w : List Nat} (hw : nmB (nm w) = false ∨ rd w = none) (hl : w.length ≤ 60) (h10 : 10 ∉ w) :
    dJoin (.str [10]) [.lst (((L.take a).map rowT).map D.str ++ [.str w] ++ ((L.drop (a + 1)).map rowT).map D.str)] = some (.str (joinD [10] ((L.take a).map rowT ++ [w] ++ (L.drop (a + 1)).map rowT))) ∧ F_law_told [.str (joinD [10] ((L.take a).map rowT ++ [w] ++ (L.drop (a + 1)).map rowT))] = .ok (.tup [.bl true, .int ((a + 1 : Nat) : Int)]) := by
  have ht : ∀ p ∈ L.take a, IsName p.1 ∧ IsChar p.2 := fun p hp => hL.2.2.1 p (List.mem_of_mem_take hp)
  have hd : ∀ p ∈ L.drop (a + 1), IsName p.1 ∧ IsChar p.2 := fun p hp => hL.2.2.1 p (List.mem_of_mem_drop hp)
  have hlt : (L.take a).length = a := by rw [List.length_take]; omega
  obtain ⟨e1, e2, _⟩ := told_rows (l := (L.take a).map rowT ++ [w] ++ (L.drop (a + 1)).map rowT) (by simp) (fun v hv => by
    rcases List.mem_append.mp hv with hv | hv
    · rcases List.mem_append.mp hv with hv | hv
      · exact rows_len ht v hv
      · rw [List.mem_singleton.mp hv]; exact hl
    · exact rows_len hd v hv) (by
    have := hL.2.1
    rw [List.length_append, List.length_append, List.length_map, List.length_map, List.length_singleton, List.length_drop]; omega) (fun v hv => by
    rcases List.mem_append.mp hv with hv | hv
    · rcases List.mem_append.mp hv with hv | hv
      · exact rows_free ht v hv
      · rw [List.mem_singleton.mp hv]; exact h10
    · exact rows_free hd v hv)
  rw [List.map_append, List.map_append] at e2
  refine ⟨e2, ?_⟩
  rw [e1, List.append_assoc]
  have hb := RC_bad (A := L.take a) (w := w) (ws := (L.drop (a + 1)).map rowT) ht (hL.2.2.2.sublist ((List.take_sublist a L).map _)) (by have := hL.2.1; omega) (badR_of hw _)
  show FR.ok (toldO (RC ((L.take a).map rowT ++ w :: (L.drop (a + 1)).map rowT) 0 [])) = _
  rw [hb, hlt]; rfl
theorem told_text {L : List Lt} (hL : IsCoast L) : F_law_told [.str (joinD [10] (L.map rowT))] = .ok (.lst [.tup (L.map lD)]) ∧ dJoin (.str [10]) [.lst ((L.map rowT).map .str)] = some (.str (joinD [10] (L.map rowT))) ∧ (joinD [10] (L.map rowT)).length ≤ 900 := by
  obtain ⟨e1, e2, e3⟩ := told_rows (l := L.map rowT) (fun e => by have := hL.1; rw [List.map_eq_nil_iff.mp e] at this; simp at this) (rows_len hL.2.2.1) (by rw [List.length_map]; have := hL.2.1; omega) (rows_free hL.2.2.1)
  rw [RC_all hL.2.2.1 hL.2.2.2 hL.2.1] at e1
  exact ⟨e1, e2, e3⟩
theorem told_twice {L : List Lt} (hL : IsCoast L) {p : Lt} (hp : p ∈ L) : F_law_told [.str (joinD [10] (L.map rowT) ++ [10] ++ rowT p)] = .ok (.tup [.bl true, .int ((L.length + 1 : Nat) : Int)]) := by
  have hne : L.map rowT ≠ [] := fun e => by have := hL.1; rw [List.map_eq_nil_iff.mp e] at this; simp at this
  have h1 := rows_len hL.2.2.1
  have h2 := rows_free hL.2.2.1
  have hm : rowT p ∈ L.map rowT := List.mem_map_of_mem hp
  obtain ⟨e1, _, _⟩ := told_rows (l := L.map rowT ++ [rowT p]) (by simp) (fun v hv => by
    rcases List.mem_append.mp hv with hv | hv
    · exact h1 v hv
    · rw [List.mem_singleton.mp hv]; exact h1 _ hm) (by rw [List.length_append, List.length_map, List.length_singleton]; have := hL.2.1; omega) (fun v hv => by
    rcases List.mem_append.mp hv with hv | hv
    · exact h2 v hv
    · rw [List.mem_singleton.mp hv]; exact h2 _ hm)
  rw [joinD_snoc _ _ hne] at e1
  obtain ⟨q1, q2⟩ := hL.2.2.1 p hp
  rw [e1, RC_bad (ws := []) hL.2.2.1 hL.2.2.2 hL.2.1 (by rw [badR_row q1 q2, decide_eq_true (List.mem_map_of_mem hp)]; rfl)]; rfl
theorem told_13 {L : List Lt} (hL : IsCoast L) : dJoin (.str [10]) [.lst ((L.map rowT).map D.str ++ (((fre L).take (13 - L.length)).map fun c => [c, 32, 68, 50]).map D.str)] = some (.str (joinD [10] ((L ++ ext L).map rowT))) ∧ F_law_told [.str (joinD [10] ((L ++ ext L).map rowT))] = .ok (.tup [.bl true, .int 13]) := by
  obtain ⟨h1, h2, h3⟩ := ext_ok hL
  obtain ⟨e1, e2, _⟩ := told_rows (l := (L ++ ext L).map rowT) (fun e => by rw [List.map_eq_nil_iff.mp e] at h1; simp at h1) (rows_len h2) (by rw [List.length_map]; omega) (rows_free h2)
  have em : ((L ++ ext L).map rowT).map D.str = (L.map rowT).map D.str ++ (((fre L).take (13 - L.length)).map fun c => [c, 32, 68, 50]).map D.str := by
    rw [List.map_append, List.map_append, ext_rows]
  rw [em] at e2
  refine ⟨e2, ?_⟩
  rw [e1, RC_13 h2 h3 h1]; rfl
theorem told_nil : F_law_told [.str []] = .ok (.tup [.bl true, .int 1]) := by
  rw [told_str (s := []) (by simp)]; rfl
theorem told_no0 {d : D} {T : String} (hT : tyD d = some T) (h1 : isaB T "str" = false) : F_law_told [d] = .ok (.tup [.bl true, .int 0]) := told_no hT h1
theorem e26 : ([D.str [97], D.str [98], D.str [99], D.str [100], D.str [101], D.str [102], D.str [103], D.str [104], D.str [105], D.str [106], D.str [107], D.str [108], D.str [109], D.str [110], D.str [111], D.str [112], D.str [113], D.str [114], D.str [115], D.str [116], D.str [117], D.str [118], D.str [119], D.str [120], D.str [121], D.str [122]] : List D) = lt26.map fun c => D.str [c] := rfl
def nfP (L : List Lt) : D → Bool
  | .str t => !decide (t ∈ L.map (·.1))
  | _ => false
def fstF : D → D
  | .tup [x, _] => x
  | _ => .non
theorem fstF_map (L : List Lt) : ((L.map lD).filter fun _ => true).map fstF = (L.map (·.1)).map .str := by
  rw [List.filter_eq_self.mpr (fun _ _ => rfl), List.map_map, List.map_map]; rfl
theorem nfP_map (L : List Lt) : ((lt26.map fun c => D.str [c]).filter (nfP L)).map (fun d => d) = (fre L).map fun c => D.str [c] := by
  rw [List.map_id', List.filter_map]; rfl
def extF : D → D
  | .str t => .str (t ++ [32, 68, 50])
  | _ => .non
theorem extF_map (l : List Nat) : ((l.map fun c => D.str [c]).filter fun _ => true).map extF = (l.map fun c => [c, 32, 68, 50]).map .str := by
  rw [List.filter_eq_self.mpr (fun _ _ => rfl), List.map_map, List.map_map]; rfl
--CUT
theorem yes (ns : List Int) (hns : ns.length ≤ 63) : F_law [.scr ns] = .ok (.bl true) := by
  apply okF_of
  unfold F_law d_law
  have hA : ∀ d : D, Pl 7 d → F_law_alike 8 [d, d] = .ok (.bl true) := fun d h => alike8 h
  generalize F_law_alike 8 = AL at hA ⊢
  have h3 : L3.inR 3 = true := inR_of (by omega) (by omega)
  have plT : ∀ i : Int, AL [.tup [.bl true, .int i], .tup [.bl true, .int i]] = .ok (.bl true) := fun i => hA _ ⟨by simp, fun x hx => by
    rcases List.mem_cons.mp hx with rfl | hx
    · trivial
    · rw [List.mem_singleton.mp hx]; trivial⟩
  simp! [h3]
  refine Po_for_of (fun _ e => ∃ (row : List D) (x2 x3 x4 x5 x6 x7 x8 x9 x10 x11 x12 x13 : Option D), Row ns row ∧ e = [some (.scr ns), some (.lst row), x2, x3, x4, x5, x6, x7, x8, x9, x10, x11, x12, x13]) ?_ ?_ ?_
  · exact ⟨_, _, _, _, _, _, _, _, _, _, _, _, _, ⟨_, _, _, rfl, Int.le_refl _⟩, rfl⟩
  · rintro i dd e hd ⟨row, x2, x3, x4, x5, x6, x7, x8, x9, x10, x11, x12, x13, R, rfl⟩
    clear hd
    simp_all!
    refine Ok.imp (K := fun d e1 => ∃ (k : Nat) (row1 : List D), 0 < k ∧ k ≤ 12 ∧ Row ns row1 ∧ d = .int (k : Nat) ∧ e1 = [some (.scr ns), some (.lst row1), some dd, x3, x4, x5, x6, x7, x8, x9, x10, x11, x12, x13]) (X := fun _ _ => False) ?_ ?_ (fun _ _ z => z.elim)
    · simp!
      refine takenN R (by omega) (by omega) fun k0 row1 hk0 R1 => ?_
      by_cases hk : k0 = 0
      · have hkI : (((k0 : Nat) : Int) = 0) = True := eq_true (by omega)
        simp! [hkI]
        exact ⟨12, row1, by omega, by omega, R1, rfl, rfl⟩
      · have hkI : ¬ ((k0 : Nat) : Int) = 0 := by omega
        simp! [hkI]
        exact ⟨5, row1, by omega, by omega, R1, rfl, rfl⟩
    rintro d1 e1 ⟨k, row1, hk0, hk1, R1, rfl, rfl⟩
    simp_all!
    refine law_coast_spec R1 k 12 hk0 hk1 (by omega) (by omega) fun L row2 hL _ _ R2 => ?_
    simp_all!
    have hLz : (L.map lD).length ≤ sizeLine := small_sz (by rw [List.length_map]; have := hL.2.1; omega)
    refine Ok_Lc_pure (fun _ => true) rowF ?_
    simp!
    refine ⟨hLz, fun d hd => ?_, ?_⟩
    · obtain ⟨p, hp, rfl⟩ := List.mem_map.mp hd
      obtain ⟨h1, h2⟩ := hL.2.2.1 p hp
      have e1 : lD p = .tup [.str p.1, .str p.2] := rfl
      have ht := law_text_spec (char_sg h2)
      have hl := row_len h1 h2
      have hl' : (p.1 ++ [32] ++ tx p.2).length ≤ 57 := hl
      rw [List.length_append, List.length_append] at hl'
      have hl' : p.1.length + 1 + (tx p.2).length ≤ 57 := hl'
      have z1 := small_sz (show p.1.length + 1 ≤ 1000 by omega)
      have z2 := small_sz (show (p.1 ++ [32]).length + (tx p.2).length ≤ 1000 by rw [List.length_append, List.length_singleton]; omega)
      have z3 := small_sz (show p.1.length + 1 + (tx p.2).length ≤ 1000 by omega)
      rw [e1]
      simp! [ht, z1, z2, z3, rowF]
    rw [rowF_map]
    obtain ⟨tt, tj, tl⟩ := told_text hL
    have plL : AL [.lst [.tup (L.map lD)], .lst [.tup (L.map lD)]] = .ok (.bl true) := hA _ ⟨by simp, fun x hx => by
      rw [List.mem_singleton.mp hx]
      refine ⟨by rw [List.length_map]; have := hL.2.1; omega, fun y hy => ?_⟩
      obtain ⟨p, _, rfl⟩ := List.mem_map.mp hy
      exact ⟨by simp, fun z hz => by
        rcases List.mem_cons.mp hz with rfl | hz
        · trivial
        · rw [List.mem_singleton.mp hz]; trivial⟩⟩
    have plS := hA (.str (joinD [10] (L.map rowT))) trivial
    have ct := coast_text_spec hL
    have ci := coast_init_spec hL
    have rz : ((L.map rowT).map D.str).length ≤ sizeLine := small_sz (by rw [List.length_map, List.length_map]; have := hL.2.1; omega)
    have rl : ((L.map rowT).map D.str).length = L.length := by rw [List.length_map, List.length_map]
    simp! [tj, ct, ci, tt, plS, plL, rz]
    rw [rl]
    have hL1 := hL.1
    have hL2 := hL.2.1
    refine takenN R2 (m := ((L.length : Nat) : Int)) (by omega) (by omega) fun a row3 ha R3 => ?_
    have ha : a < L.length := by omega
    obtain ⟨p, hpa⟩ : ∃ p, L[a]? = some p := ⟨L[a], List.getElem?_eq_getElem ha⟩
    have hp : p ∈ L := List.mem_of_getElem? hpa
    obtain ⟨hp1, hp2⟩ := hL.2.2.1 p hp
    have hpl := row_len hp1 hp2
    have i1 : dIx (.lst ((L.map rowT).map D.str)) (.int (a : Nat)) = some (.str (rowT p)) := by
      have := atI_nat (xs := (L.map rowT).map D.str) (j := a) (v := .str (rowT p)) (by rw [List.getElem?_map, List.getElem?_map, hpa]; rfl)
      simp [dIx] at this ⊢
      exact this
    have i2 : dIx (.lst (L.map lD)) (.int (a : Nat)) = some (.tup [.str p.1, .str p.2]) := by
      have := atI_nat (xs := L.map lD) (j := a) (v := lD p) (by rw [List.getElem?_map, hpa]; rfl)
      simp [dIx] at this ⊢
      exact this
    have zp := small_sz (show (rowT p).length + 1 ≤ 1000 by omega)
    simp! [↓i1, ↓i2, zp]
    refine pick R3 (by simp) (by simp) fun d1 row4 hd1 R4 => ?_
    obtain ⟨w, ew, hw1, hw2, hw3⟩ : ∃ w, d1 = .str w ∧ (nmB (nm w) = false ∨ rd w = none) ∧ w.length ≤ 60 ∧ 10 ∉ w := by
      have bf := bad_fix
      simp only [List.mem_cons, List.not_mem_nil, or_false] at hd1
      rcases hd1 with rfl | rfl | rfl | rfl | rfl | rfl | rfl | rfl | rfl | rfl | rfl
      · exact ⟨_, rfl, bf _ (by decide)⟩
      · exact ⟨_, rfl, bf _ (by decide)⟩
      · exact ⟨_, rfl, bf _ (by decide)⟩
      · exact ⟨_, rfl, bf _ (by decide)⟩
      · exact ⟨_, rfl, bf _ (by decide)⟩
      · exact ⟨_, rfl, bf _ (by decide)⟩
      · exact ⟨_, rfl, bf _ (by decide)⟩
      · exact ⟨_, rfl, bf _ (by decide)⟩
      · exact ⟨_, rfl, bf _ (by decide)⟩
      · exact ⟨_, rfl, .inr (bad_tail hp1 hp2), by rw [List.length_append, List.length_singleton]; omega, fun z => by
          rcases List.mem_append.mp z with z | z
          · exact row_free hp1 hp2 z
          · simp at z⟩
      · exact ⟨_, rfl, .inr (bad_name hp1), by have := hp1.2.1; omega, (name_free hp1).2⟩
    clear hd1
    subst ew
    obtain ⟨wj, wt⟩ := told_wrong hL ha hw1 hw2 hw3
    have ea1 : ((a : Nat) : Int) + 1 = ((a + 1 : Nat) : Int) := by omega
    have c1 : L3.cutD ((L.map rowT).map D.str) none (some ((a : Nat) : Int)) = ((L.take a).map rowT).map D.str := by
      rw [List.map_take, List.map_take]; exact cutD_to _ _
    have c2 : L3.cutD ((L.map rowT).map D.str) (some ((a + 1 : Nat) : Int)) none = ((L.drop (a + 1)).map rowT).map D.str := by
      rw [List.map_drop, List.map_drop]; exact cutD_from _ _
    have zw1 := small_sz (show (((L.take a).map rowT).map D.str).length + 1 ≤ 1000 by rw [List.length_map, List.length_map, List.length_take]; omega)
    have zw2 := small_sz (show (((L.take a).map rowT).map D.str ++ [D.str w]).length + (((L.drop (a + 1)).map rowT).map D.str).length ≤ 1000 by rw [List.length_append, List.length_map, List.length_map, List.length_take, List.length_map, List.length_map, List.length_drop, List.length_singleton]; omega)
    have z5 := small_sz (show (joinD [10] (L.map rowT)).length + 1 ≤ 1000 by omega)
    have z6 := small_sz (show (joinD [10] (L.map rowT) ++ [10]).length + (rowT p).length ≤ 1000 by rw [List.length_append, List.length_singleton]; omega)
    have el1 : ((L.length : Nat) : Int) + 1 = ((L.length + 1 : Nat) : Int) := by omega
    have tw := told_twice hL hp
    simp! [c1, ea1, c2, zw1, zw2, wj, wt, plT, rz, ↓i1, z5, z6, el1, tw, rl]
    refine Ok_Lc_pure (nfP L) (fun d => d) ?_
    simp!
    refine ⟨small_sz (by decide), fun d hd => ?_, ?_⟩
    · rw [e26] at hd
      obtain ⟨c, hc, rfl⟩ := List.mem_map.mp hd
      simp!
      refine Ok_Lc_pure (fun _ => true) fstF ?_
      simp!
      refine ⟨hLz, fun d hd => ?_, ?_⟩
      · obtain ⟨q, hq, rfl⟩ := List.mem_map.mp hd
        have e1 : lD q = .tup [.str q.1, .str q.2] := rfl
        rw [e1]
        simp! [fstF]
      · rw [fstF_map]
        have nin := dNotIn_strs [c] (L.map (·.1))
        simp! [nin]
        have em2 : (L.map rowT).map D.str = L.map (D.str ∘ rowT) := List.map_map
        rw [em2]
        split <;> rfl
    rw [e26, nfP_map]
    have hf := fre_len L
    have e13 : (13 : Int) - ((L.map lD).length : Nat) = ((13 - L.length : Nat) : Int) := by rw [List.length_map]; omega
    have c3 : L3.cutD ((fre L).map fun c => D.str [c]) none (some ((13 - L.length : Nat) : Int)) = ((fre L).take (13 - L.length)).map fun c => D.str [c] := by
      rw [List.map_take]; exact cutD_to _ _
    simp! [e13, c3, hLz]
    refine Ok_Lc_pure (fun _ => true) extF ?_
    simp!
    refine ⟨small_sz (by rw [List.length_map, List.length_take]; omega), fun d hd => ?_, ?_⟩
    · obtain ⟨c, hc, rfl⟩ := List.mem_map.mp hd
      have z9 := small_sz (show 4 ≤ 1000 by omega)
      have z8 : szOk 4 := by decide
      simp! [extF, z8]
    rw [extF_map]
    obtain ⟨xj, xt⟩ := told_13 hL
    have z10 := small_sz (show ((L.map rowT).map D.str).length + ((((fre L).take (13 - L.length)).map fun c => [c, 32, 68, 50]).map D.str).length ≤ 1000 by rw [List.length_map, List.length_map, List.length_map, List.length_map, List.length_take]; omega)
    simp! [z10, xj, xt, plT]
    refine pick R4 (by simp) (by simp) fun d2 row5 hd2 R5 => ?_
    have t0 : F_law_told [d2] = .ok (.tup [.bl true, .int 0]) := by
      simp only [List.mem_cons, List.not_mem_nil, or_false] at hd2
      rcases hd2 with rfl | rfl | rfl | rfl | rfl
      · exact told_no0 rfl (by decide)
      · exact told_no0 rfl (by decide)
      · exact told_no0 rfl (by decide)
      · exact told_no0 rfl (by decide)
      · exact told_no0 rfl (by decide)
    simp! [t0, told_nil, plT]
    exact ⟨_, _, _, _, _, _, _, _, _, _, _, _, _, R5, rfl⟩
  · rintro e ⟨row, x2, x3, x4, x5, x6, x7, x8, x9, x10, x11, x12, x13, R, rfl⟩
    simp!

end K31


noncomputable section
namespace K31
open PySem PySem.Spec L2 L3
open PyProof.Rows hiding St
variable {w : World} {K : PySem.W.Frag} {mg : Str → Option Value} {base : Heap}
abbrev s_init : Stmt := inClass (topS 10) 0
theorem sc_init : FnScope ["self", "value"] ["self", "value"] (defScope s_init) := ⟨rfl, rfl, rfl, by decide +kernel, rfl, by decide +kernel, by decide +kernel⟩
theorem all_mk {h : Heap} {fa : Addr} (X : K.In h) (G : h.Ns mainGlobals mg) (hfa : mg "law" = some (.ref fa)) (yes : ∀ ns : List Int, ns.length ≤ 63 → F_law [.scr ns] = .ok (.bl true))
    {K_Coast : Addr}
    {f0 : Addr} {od0 an0 : Option Addr} {sl0 : Array (Option Value)} {oc0 kV0 dc0 pm0 cd0 ct0 : Value}
    {f1 : Addr} {od1 an1 : Option Addr} {sl1 : Array (Option Value)} {oc1 kV1 dc1 pm1 cd1 ct1 : Value}
    {f2 : Addr} {od2 an2 : Option Addr} {sl2 : Array (Option Value)} {oc2 kV2 dc2 pm2 cd2 ct2 : Value}
    {f3 : Addr} {od3 an3 : Option Addr} {sl3 : Array (Option Value)} {oc3 kV3 dc3 pm3 cd3 ct3 : Value}
    {f4 : Addr} {od4 an4 : Option Addr} {sl4 : Array (Option Value)} {oc4 kV4 dc4 pm4 cd4 ct4 : Value}
    {f5 : Addr} {od5 an5 : Option Addr} {sl5 : Array (Option Value)} {oc5 kV5 dc5 pm5 cd5 ct5 : Value}
    {f6 : Addr} {od6 an6 : Option Addr} {sl6 : Array (Option Value)} {oc6 kV6 dc6 pm6 cd6 ct6 : Value}
    {f7 : Addr} {od7 an7 : Option Addr} {sl7 : Array (Option Value)} {oc7 kV7 dc7 pm7 cd7 ct7 : Value}
    {f8 : Addr} {od8 an8 : Option Addr} {sl8 : Array (Option Value)} {oc8 kV8 dc8 pm8 cd8 ct8 : Value}
    {f9 : Addr} {od9 an9 : Option Addr} {sl9 : Array (Option Value)} {oc9 kV9 dc9 pm9 cd9 ct9 : Value}
    {f10 : Addr} {od10 an10 : Option Addr} {sl10 : Array (Option Value)} {oc10 kV10 dc10 pm10 cd10 ct10 : Value}
    {f11 : Addr} {od11 an11 : Option Addr} {sl11 : Array (Option Value)} {oc11 kV11 dc11 pm11 cd11 ct11 : Value}
    {f12 : Addr} {od12 an12 : Option Addr} {sl12 : Array (Option Value)} {oc12 kV12 dc12 pm12 cd12 ct12 : Value}
    {f13 : Addr} {od13 an13 : Option Addr} {sl13 : Array (Option Value)} {oc13 kV13 dc13 pm13 cd13 ct13 : Value}
    {f14 : Addr} {od14 an14 : Option Addr} {sl14 : Array (Option Value)} {oc14 kV14 dc14 pm14 cd14 ct14 : Value}
    {f15 : Addr} {od15 an15 : Option Addr} {sl15 : Array (Option Value)} {oc15 kV15 dc15 pm15 cd15 ct15 : Value}
    {f16 : Addr} {od16 an16 : Option Addr} {sl16 : Array (Option Value)} {oc16 kV16 dc16 pm16 cd16 ct16 : Value}
    {f17 : Addr} {od17 an17 : Option Addr} {sl17 : Array (Option Value)} {oc17 kV17 dc17 pm17 cd17 ct17 : Value}
    {f18 : Addr} {od18 an18 : Option Addr} {sl18 : Array (Option Value)} {oc18 kV18 dc18 pm18 cd18 ct18 : Value}
    {f19 : Addr} {od19 an19 : Option Addr} {sl19 : Array (Option Value)} {oc19 kV19 dc19 pm19 cd19 ct19 : Value}
    {f20 : Addr} {od20 an20 : Option Addr} {sl20 : Array (Option Value)} {oc20 kV20 dc20 pm20 cd20 ct20 : Value}
    {f21 : Addr} {od21 an21 : Option Addr} {sl21 : Array (Option Value)} {oc21 kV21 dc21 pm21 cd21 ct21 : Value}
    {f22 : Addr} {od22 an22 : Option Addr} {sl22 : Array (Option Value)} {oc22 kV22 dc22 pm22 cd22 ct22 : Value}
    {f23 : Addr} {od23 an23 : Option Addr} {sl23 : Array (Option Value)} {oc23 kV23 dc23 pm23 cd23 ct23 : Value}
    {gs_LETTERS : Str} {gt_LETTERS : Tok}
    {gi_MOST_LENGTH : Int} {gt_MOST_LENGTH : Tok}
    {gi_MOST_LIGHTS : Int} {gt_MOST_LIGHTS : Tok}
    {gi_MOST_NAME : Int} {gt_MOST_NAME : Tok}
    {gs_SIGNS : Str} {gt_SIGNS : Tok}
    {gd_LETTERS_OF : Addr} {gs_LETTERS_OF_0 : Str} {gt_LETTERS_OF_0 : Tok} {gs_LETTERS_OF_1 : Str} {gt_LETTERS_OF_1 : Tok}
    {gd_SIGNS_OF : Addr} {gs_SIGNS_OF_0 : Str} {gt_SIGNS_OF_0 : Tok} {gs_SIGNS_OF_1 : Str} {gt_SIGNS_OF_1 : Tok}
    {B fI dT : Addr} {odI anI odT : Option Addr} {slI slT : Array (Option Value)} {ocI kVI dcI pmI cdI ctI ocT : Value} {nT : Nat}
    {C_BadLights N_BadLights : Addr} {nm_BadLights q_BadLights : Str} {bs_BadLights bm_BadLights sub_BadLights : List Value} {sn_BadLights : List Str} {ab_BadLights : Bool} {col_BadLights : Option Bool} {dd_BadLights : Option Addr} {m0_BadLights m1_BadLights m2_BadLights m3_BadLights m5_BadLights : Option Value}
    {C_BadRow N_BadRow : Addr} {nm_BadRow q_BadRow : Str} {bs_BadRow bm_BadRow sub_BadRow : List Value} {sn_BadRow : List Str} {ab_BadRow : Bool} {col_BadRow : Option Bool} {dd_BadRow : Option Addr} {m0_BadRow m1_BadRow m2_BadRow m3_BadRow m5_BadRow : Option Value}
    (aK_Coast : PySem.W.nsIn K mainGlobals "Coast" = some (some (.ref K_Coast)))
    (pgK_Coast : PySem.W.plainGet K K_Coast Str.empty = true)
    (hdK_Coast : PySem.W.hasDictIn K K_Coast = true)
    (poK_Coast : PySem.W.plainOver K K_Coast = true)
    (saK_Coast : PySem.W.findIn K (.ref K_Coast) "__setattr__" = some (some (.builtin "object.__setattr__")))
    (mkK_Coast : PySem.W.makesIn K K_Coast = true)
    (kcK_Coast : PySem.W.keepIn K (.ref K_Coast) = true)
    (nK_Coast_lights : PySem.W.findIn K (.ref K_Coast) "lights" = some none)
    (nK_Coast_names : PySem.W.findIn K (.ref K_Coast) "names" = some none)
    (a0 : PySem.W.nsIn K mainGlobals "is_row" = some (some (.ref f0)))
    (l0 : K.lookup f0 = some ⟨oc0, od0, .func (PySem.W.fnOf "is_row" "is_row" (defArgs s_is_row) (defBody s_is_row) (defScope s_is_row) .none kV0 dc0 pm0 an0 cd0 ct0), sl0⟩)
    (c0 : PySem.W.codeIn K cd0 "is_row" = true)
    (k0 : PySem.W.keepIn K (.ref f0) = true)
    (a1 : PySem.W.nsIn K mainGlobals "is_tuple_of" = some (some (.ref f1)))
    (l1 : K.lookup f1 = some ⟨oc1, od1, .func (PySem.W.fnOf "is_tuple_of" "is_tuple_of" (defArgs s_is_tuple_of) (defBody s_is_tuple_of) (defScope s_is_tuple_of) .none kV1 dc1 pm1 an1 cd1 ct1), sl1⟩)
    (c1 : PySem.W.codeIn K cd1 "is_tuple_of" = true)
    (k1 : PySem.W.keepIn K (.ref f1) = true)
    (a2 : PySem.W.nsIn K mainGlobals "is_name" = some (some (.ref f2)))
    (l2 : K.lookup f2 = some ⟨oc2, od2, .func (PySem.W.fnOf "is_name" "is_name" (defArgs s_is_name) (defBody s_is_name) (defScope s_is_name) .none kV2 dc2 pm2 an2 cd2 ct2), sl2⟩)
    (c2 : PySem.W.codeIn K cd2 "is_name" = true)
    (k2 : PySem.W.keepIn K (.ref f2) = true)
    (a3 : PySem.W.nsIn K mainGlobals "is_of_signs" = some (some (.ref f3)))
    (l3 : K.lookup f3 = some ⟨oc3, od3, .func (PySem.W.fnOf "is_of_signs" "is_of_signs" (defArgs s_is_of_signs) (defBody s_is_of_signs) (defScope s_is_of_signs) .none kV3 dc3 pm3 an3 cd3 ct3), sl3⟩)
    (c3 : PySem.W.codeIn K cd3 "is_of_signs" = true)
    (k3 : PySem.W.keepIn K (.ref f3) = true)
    (a4 : PySem.W.nsIn K mainGlobals "as_count" = some (some (.ref f4)))
    (l4 : K.lookup f4 = some ⟨oc4, od4, .func (PySem.W.fnOf "as_count" "as_count" (defArgs s_as_count) (defBody s_as_count) (defScope s_as_count) .none kV4 dc4 pm4 an4 cd4 ct4), sl4⟩)
    (c4 : PySem.W.codeIn K cd4 "as_count" = true)
    (k4 : PySem.W.keepIn K (.ref f4) = true)
    (a5 : PySem.W.nsIn K mainGlobals "is_character" = some (some (.ref f5)))
    (l5 : K.lookup f5 = some ⟨oc5, od5, .func (PySem.W.fnOf "is_character" "is_character" (defArgs s_is_character) (defBody s_is_character) (defScope s_is_character) .none kV5 dc5 pm5 an5 cd5 ct5), sl5⟩)
    (c5 : PySem.W.codeIn K cd5 "is_character" = true)
    (k5 : PySem.W.keepIn K (.ref f5) = true)
    (a6 : PySem.W.findIn K (.ref K_Coast) "__init__" = some (some (.ref f6)))
    (i6 : PySem.W.isFn K (.ref f6) = true)
    (l6 : K.lookup f6 = some ⟨oc6, od6, .func (PySem.W.fnOf "__init__" "Coast.__init__" (defArgs s_Coast_init) (defBody s_Coast_init) (defScope s_Coast_init) .none kV6 dc6 pm6 an6 cd6 ct6), sl6⟩)
    (c6 : PySem.W.codeIn K cd6 "Coast.__init__" = true)
    (k6 : PySem.W.keepIn K (.ref f6) = true)
    (a7 : PySem.W.nsIn K mainGlobals "text_of" = some (some (.ref f7)))
    (l7 : K.lookup f7 = some ⟨oc7, od7, .func (PySem.W.fnOf "text_of" "text_of" (defArgs s_text_of) (defBody s_text_of) (defScope s_text_of) .none kV7 dc7 pm7 an7 cd7 ct7), sl7⟩)
    (c7 : PySem.W.codeIn K cd7 "text_of" = true)
    (k7 : PySem.W.keepIn K (.ref f7) = true)
    (a8 : PySem.W.nsIn K mainGlobals "character_in" = some (some (.ref f8)))
    (l8 : K.lookup f8 = some ⟨oc8, od8, .func (PySem.W.fnOf "character_in" "character_in" (defArgs s_character_in) (defBody s_character_in) (defScope s_character_in) .none kV8 dc8 pm8 an8 cd8 ct8), sl8⟩)
    (c8 : PySem.W.codeIn K cd8 "character_in" = true)
    (k8 : PySem.W.keepIn K (.ref f8) = true)
    (a9 : PySem.W.nsIn K mainGlobals "coast_text" = some (some (.ref f9)))
    (l9 : K.lookup f9 = some ⟨oc9, od9, .func (PySem.W.fnOf "coast_text" "coast_text" (defArgs s_coast_text) (defBody s_coast_text) (defScope s_coast_text) .none kV9 dc9 pm9 an9 cd9 ct9), sl9⟩)
    (c9 : PySem.W.codeIn K cd9 "coast_text" = true)
    (k9 : PySem.W.keepIn K (.ref f9) = true)
    (a10 : PySem.W.nsIn K mainGlobals "read_coast" = some (some (.ref f10)))
    (l10 : K.lookup f10 = some ⟨oc10, od10, .func (PySem.W.fnOf "read_coast" "read_coast" (defArgs s_read_coast) (defBody s_read_coast) (defScope s_read_coast) .none kV10 dc10 pm10 an10 cd10 ct10), sl10⟩)
    (c10 : PySem.W.codeIn K cd10 "read_coast" = true)
    (k10 : PySem.W.keepIn K (.ref f10) = true)
    (a11 : PySem.W.nsIn K mainGlobals "_law_taken" = some (some (.ref f11)))
    (l11 : K.lookup f11 = some ⟨oc11, od11, .func (PySem.W.fnOf "_law_taken" "_law_taken" (defArgs s_law_taken) (defBody s_law_taken) (defScope s_law_taken) .none kV11 dc11 pm11 an11 cd11 ct11), sl11⟩)
    (c11 : PySem.W.codeIn K cd11 "_law_taken" = true)
    (k11 : PySem.W.keepIn K (.ref f11) = true)
    (a12 : PySem.W.nsIn K mainGlobals "_law_pick" = some (some (.ref f12)))
    (l12 : K.lookup f12 = some ⟨oc12, od12, .func (PySem.W.fnOf "_law_pick" "_law_pick" (defArgs s_law_pick) (defBody s_law_pick) (defScope s_law_pick) .none kV12 dc12 pm12 an12 cd12 ct12), sl12⟩)
    (c12 : PySem.W.codeIn K cd12 "_law_pick" = true)
    (k12 : PySem.W.keepIn K (.ref f12) = true)
    (a13 : PySem.W.nsIn K mainGlobals "_law_pick" = some (some (.ref f13)))
    (l13 : K.lookup f13 = some ⟨oc13, od13, .func (PySem.W.fnOf "_law_pick" "_law_pick" (defArgs s_law_pickQ) (defBody s_law_pickQ) (defScope s_law_pickQ) .none kV13 dc13 pm13 an13 cd13 ct13), sl13⟩)
    (c13 : PySem.W.codeIn K cd13 "_law_pick" = true)
    (k13 : PySem.W.keepIn K (.ref f13) = true)
    (a14 : PySem.W.nsIn K mainGlobals "_law_alike" = some (some (.ref f14)))
    (l14 : K.lookup f14 = some ⟨oc14, od14, .func (PySem.W.fnOf "_law_alike" "_law_alike" (defArgs s_law_alike) (defBody s_law_alike) (defScope s_law_alike) .none kV14 dc14 pm14 an14 cd14 ct14), sl14⟩)
    (c14 : PySem.W.codeIn K cd14 "_law_alike" = true)
    (k14 : PySem.W.keepIn K (.ref f14) = true)
    (a15 : PySem.W.nsIn K mainGlobals "_law_name" = some (some (.ref f15)))
    (l15 : K.lookup f15 = some ⟨oc15, od15, .func (PySem.W.fnOf "_law_name" "_law_name" (defArgs s_law_name) (defBody s_law_name) (defScope s_law_name) .none kV15 dc15 pm15 an15 cd15 ct15), sl15⟩)
    (c15 : PySem.W.codeIn K cd15 "_law_name" = true)
    (k15 : PySem.W.keepIn K (.ref f15) = true)
    (a16 : PySem.W.nsIn K mainGlobals "_law_names" = some (some (.ref f16)))
    (l16 : K.lookup f16 = some ⟨oc16, od16, .func (PySem.W.fnOf "_law_names" "_law_names" (defArgs s_law_names) (defBody s_law_names) (defScope s_law_names) .none kV16 dc16 pm16 an16 cd16 ct16), sl16⟩)
    (c16 : PySem.W.codeIn K cd16 "_law_names" = true)
    (k16 : PySem.W.keepIn K (.ref f16) = true)
    (a17 : PySem.W.nsIn K mainGlobals "_law_character" = some (some (.ref f17)))
    (l17 : K.lookup f17 = some ⟨oc17, od17, .func (PySem.W.fnOf "_law_character" "_law_character" (defArgs s_law_character) (defBody s_law_character) (defScope s_law_character) .none kV17 dc17 pm17 an17 cd17 ct17), sl17⟩)
    (c17 : PySem.W.codeIn K cd17 "_law_character" = true)
    (k17 : PySem.W.keepIn K (.ref f17) = true)
    (a18 : PySem.W.nsIn K mainGlobals "_law_core" = some (some (.ref f18)))
    (l18 : K.lookup f18 = some ⟨oc18, od18, .func (PySem.W.fnOf "_law_core" "_law_core" (defArgs s_law_core) (defBody s_law_core) (defScope s_law_core) .none kV18 dc18 pm18 an18 cd18 ct18), sl18⟩)
    (c18 : PySem.W.codeIn K cd18 "_law_core" = true)
    (k18 : PySem.W.keepIn K (.ref f18) = true)
    (a19 : PySem.W.nsIn K mainGlobals "_law_turns" = some (some (.ref f19)))
    (l19 : K.lookup f19 = some ⟨oc19, od19, .func (PySem.W.fnOf "_law_turns" "_law_turns" (defArgs s_law_turns) (defBody s_law_turns) (defScope s_law_turns) .none kV19 dc19 pm19 an19 cd19 ct19), sl19⟩)
    (c19 : PySem.W.codeIn K cd19 "_law_turns" = true)
    (k19 : PySem.W.keepIn K (.ref f19) = true)
    (a20 : PySem.W.nsIn K mainGlobals "_law_coast" = some (some (.ref f20)))
    (l20 : K.lookup f20 = some ⟨oc20, od20, .func (PySem.W.fnOf "_law_coast" "_law_coast" (defArgs s_law_coast) (defBody s_law_coast) (defScope s_law_coast) .none kV20 dc20 pm20 an20 cd20 ct20), sl20⟩)
    (c20 : PySem.W.codeIn K cd20 "_law_coast" = true)
    (k20 : PySem.W.keepIn K (.ref f20) = true)
    (a21 : PySem.W.nsIn K mainGlobals "_law_text" = some (some (.ref f21)))
    (l21 : K.lookup f21 = some ⟨oc21, od21, .func (PySem.W.fnOf "_law_text" "_law_text" (defArgs s_law_text) (defBody s_law_text) (defScope s_law_text) .none kV21 dc21 pm21 an21 cd21 ct21), sl21⟩)
    (c21 : PySem.W.codeIn K cd21 "_law_text" = true)
    (k21 : PySem.W.keepIn K (.ref f21) = true)
    (a22 : PySem.W.nsIn K mainGlobals "_law_told" = some (some (.ref f22)))
    (l22 : K.lookup f22 = some ⟨oc22, od22, .func (PySem.W.fnOf "_law_told" "_law_told" (defArgs s_law_told) (defBody s_law_told) (defScope s_law_told) .none kV22 dc22 pm22 an22 cd22 ct22), sl22⟩)
    (c22 : PySem.W.codeIn K cd22 "_law_told" = true)
    (k22 : PySem.W.keepIn K (.ref f22) = true)
    (a23 : PySem.W.nsIn K mainGlobals "law" = some (some (.ref f23)))
    (l23 : K.lookup f23 = some ⟨oc23, od23, .func (PySem.W.fnOf "law" "law" (defArgs s_law) (defBody s_law) (defScope s_law) .none kV23 dc23 pm23 an23 cd23 ct23), sl23⟩)
    (c23 : PySem.W.codeIn K cd23 "law" = true)
    (k23 : PySem.W.keepIn K (.ref f23) = true)
    (z_ValueError : PySem.W.nsIn K mainGlobals "ValueError" = some none)
    (z_all : PySem.W.nsIn K mainGlobals "all" = some none)
    (z_bool : PySem.W.nsIn K mainGlobals "bool" = some none)
    (z_dict : PySem.W.nsIn K mainGlobals "dict" = some none)
    (z_enumerate : PySem.W.nsIn K mainGlobals "enumerate" = some none)
    (z_int : PySem.W.nsIn K mainGlobals "int" = some none)
    (z_isinstance : PySem.W.nsIn K mainGlobals "isinstance" = some none)
    (z_len : PySem.W.nsIn K mainGlobals "len" = some none)
    (z_list : PySem.W.nsIn K mainGlobals "list" = some none)
    (z_range : PySem.W.nsIn K mainGlobals "range" = some none)
    (z_str : PySem.W.nsIn K mainGlobals "str" = some none)
    (z_tuple : PySem.W.nsIn K mainGlobals "tuple" = some none)
    (g_LETTERS : PySem.W.nsIn K mainGlobals "LETTERS" = some (some (.str gs_LETTERS gt_LETTERS)))
    (e_LETTERS : gs_LETTERS = S [97, 98, 99, 100, 101, 102, 103, 104, 105, 106, 107, 108, 109, 110, 111, 112, 113, 114, 115, 116, 117, 118, 119, 120, 121, 122])
    (g_MOST_LENGTH : PySem.W.nsIn K mainGlobals "MOST_LENGTH" = some (some (.int gi_MOST_LENGTH gt_MOST_LENGTH)))
    (e_MOST_LENGTH : gi_MOST_LENGTH = 12)
    (g_MOST_LIGHTS : PySem.W.nsIn K mainGlobals "MOST_LIGHTS" = some (some (.int gi_MOST_LIGHTS gt_MOST_LIGHTS)))
    (e_MOST_LIGHTS : gi_MOST_LIGHTS = 12)
    (g_MOST_NAME : PySem.W.nsIn K mainGlobals "MOST_NAME" = some (some (.int gi_MOST_NAME gt_MOST_NAME)))
    (e_MOST_NAME : gi_MOST_NAME = 8)
    (g_SIGNS : PySem.W.nsIn K mainGlobals "SIGNS" = some (some (.str gs_SIGNS gt_SIGNS)))
    (e_SIGNS : gs_SIGNS = S [35, 46])
    (dg_LETTERS_OF : PySem.W.nsIn K mainGlobals "LETTERS_OF" = some (some (.ref gd_LETTERS_OF)))
    (dw_LETTERS_OF : He.dicW K gd_LETTERS_OF = some (He.keysIn w.params [("#" : Str), ("." : Str)]))
    (dn_LETTERS_OF_0 : PySem.W.nsIn K gd_LETTERS_OF "#" = some (some (.str gs_LETTERS_OF_0 gt_LETTERS_OF_0)))
    (de_LETTERS_OF_0 : gs_LETTERS_OF_0 = S [76])
    (dn_LETTERS_OF_1 : PySem.W.nsIn K gd_LETTERS_OF "." = some (some (.str gs_LETTERS_OF_1 gt_LETTERS_OF_1)))
    (de_LETTERS_OF_1 : gs_LETTERS_OF_1 = S [68])
    (dg_SIGNS_OF : PySem.W.nsIn K mainGlobals "SIGNS_OF" = some (some (.ref gd_SIGNS_OF)))
    (dw_SIGNS_OF : He.dicW K gd_SIGNS_OF = some (He.keysIn w.params [("L" : Str), ("D" : Str)]))
    (dn_SIGNS_OF_0 : PySem.W.nsIn K gd_SIGNS_OF "L" = some (some (.str gs_SIGNS_OF_0 gt_SIGNS_OF_0)))
    (de_SIGNS_OF_0 : gs_SIGNS_OF_0 = S [35])
    (dn_SIGNS_OF_1 : PySem.W.nsIn K gd_SIGNS_OF "D" = some (some (.str gs_SIGNS_OF_1 gt_SIGNS_OF_1)))
    (de_SIGNS_OF_1 : gs_SIGNS_OF_1 = S [46])
    (aB : PySem.W.nsIn K mainGlobals "CoastError" = some (some (.ref B)))
    (iB : PySem.W.findIn K (.ref B) "__init__" = some (some (.ref fI)))
    (lI : K.lookup fI = some ⟨ocI, odI, .func (PySem.W.fnOf "__init__" "CoastError.__init__" (defArgs s_init) (defBody s_init) (defScope s_init) (.ref dT) kVI dcI pmI anI cdI ctI), slI⟩)
    (cI : PySem.W.codeIn K cdI "CoastError.__init__" = true)
    (kI : PySem.W.keepIn K (.ref fI) = true)
    (lT : K.lookup dT = some ⟨ocT, odT, .seq [Value.none].toArray nT, slT⟩)
    (tI : PySem.W.typeIn K (.ref fI) = some (.type "function"))
    (hn : PySem.W.specialIn K (.builtin "object.__class__") "__get__" = some (some (.builtin "getset_descriptor.__get__")))
    (ht : PySem.W.takesIn K (.builtin "object.__class__") = some true)
    (aC_BadLights : PySem.W.nsIn K mainGlobals "BadLights" = some (some (.ref C_BadLights)))
    (xL_BadLights : K.lookup C_BadLights = some (excClassObj nm_BadLights q_BadLights C_BadLights N_BadLights bs_BadLights bm_BadLights true sn_BadLights sub_BadLights ab_BadLights col_BadLights dd_BadLights m0_BadLights m1_BadLights m2_BadLights m3_BadLights m5_BadLights "ValueError.__new__"))
    (rv_BadLights : PySem.HandSPX.refsVE bm_BadLights = true)
    (sa_BadLights : PySem.W.findIn K (.ref C_BadLights) "__setattr__" = some (some (.builtin "object.__setattr__")))
    (hg_BadLights : PySem.W.findIn K (.ref C_BadLights) "__getattribute__" = some (some (.builtin "BaseException.__getattribute__")))
    (hk_BadLights : PySem.W.findIn K (.ref C_BadLights) "__getattr__" = some none)
    (hv_BadLights : PySem.W.findIn K (.ref C_BadLights) "value" = some none)
    (iC_BadLights : PySem.W.findIn K (.ref C_BadLights) "__init__" = some (some (.ref fI)))
    (kC_BadLights : PySem.W.keepIn K (.ref C_BadLights) = true)
    (eC_BadLights : PySem.W.subIn K (.ref C_BadLights) (.type "BaseException") = some true)
    (tC_BadLights : PySem.W.typeIn K (.ref C_BadLights) = some (.type "type"))
    (hC_BadLights : PySem.W.hasDictIn K C_BadLights = true)
    (cl_BadLights : PySem.W.isClsIn K C_BadLights = true)
    (ha_BadLights : PySem.W.findIn K (.ref C_BadLights) "__class__" = some (some (.builtin "object.__class__")))
    (mo_BadLights : PySem.W.mroIn K C_BadLights (.type "object") = some true)
    (aC_BadRow : PySem.W.nsIn K mainGlobals "BadRow" = some (some (.ref C_BadRow)))
    (xL_BadRow : K.lookup C_BadRow = some (excClassObj nm_BadRow q_BadRow C_BadRow N_BadRow bs_BadRow bm_BadRow true sn_BadRow sub_BadRow ab_BadRow col_BadRow dd_BadRow m0_BadRow m1_BadRow m2_BadRow m3_BadRow m5_BadRow "ValueError.__new__"))
    (rv_BadRow : PySem.HandSPX.refsVE bm_BadRow = true)
    (sa_BadRow : PySem.W.findIn K (.ref C_BadRow) "__setattr__" = some (some (.builtin "object.__setattr__")))
    (hg_BadRow : PySem.W.findIn K (.ref C_BadRow) "__getattribute__" = some (some (.builtin "BaseException.__getattribute__")))
    (hk_BadRow : PySem.W.findIn K (.ref C_BadRow) "__getattr__" = some none)
    (hv_BadRow : PySem.W.findIn K (.ref C_BadRow) "value" = some none)
    (iC_BadRow : PySem.W.findIn K (.ref C_BadRow) "__init__" = some (some (.ref fI)))
    (kC_BadRow : PySem.W.keepIn K (.ref C_BadRow) = true)
    (eC_BadRow : PySem.W.subIn K (.ref C_BadRow) (.type "BaseException") = some true)
    (tC_BadRow : PySem.W.typeIn K (.ref C_BadRow) = some (.type "type"))
    (hC_BadRow : PySem.W.hasDictIn K C_BadRow = true)
    (cl_BadRow : PySem.W.isClsIn K C_BadRow = true)
    (ha_BadRow : PySem.W.findIn K (.ref C_BadRow) "__class__" = some (some (.builtin "object.__class__")))
    (mo_BadRow : PySem.W.mroIn K C_BadRow (.type "object") = some true)
    (xm0_BadLights : PySem.W.exmOne K (.ref C_BadLights) (.ref B) = some true)
    (kV0_BadLights : PySem.W.kitOne K (.ref C_BadLights) (.type "ValueError") = some true)
    (ki0_BadLights_BadRow : PySem.W.kitOne K (.ref C_BadLights) (.ref C_BadRow) = some false)
    (xm0_BadRow : PySem.W.exmOne K (.ref C_BadRow) (.ref B) = some true)
    (kV0_BadRow : PySem.W.kitOne K (.ref C_BadRow) (.type "ValueError") = some true)
    (ki0_BadRow_BadRow : PySem.W.kitOne K (.ref C_BadRow) (.ref C_BadRow) = some true)
    : ∃ fd : FuncData, (∀ (s : Shared) (u : Value), BindsTo s fd ⟨[u], []⟩ [("script", u)]) ∧ ∀ base : Heap, K.In base → base.Ns mainGlobals mg → FnOk PR w K mg base (L2.CX PR w) 10 fa fd ["script"] (spLaw K) := by
  have e := hfa.symm.trans (PySem.W.mg_of X G a23)
  cases e
  have F0 := fun_mk (st := s_is_row) l0 c0 k0
  have F1 := fun_mk (st := s_is_tuple_of) l1 c1 k1
  have F2 := fun_mk (st := s_is_name) l2 c2 k2
  have F3 := fun_mk (st := s_is_of_signs) l3 c3 k3
  have F4 := fun_mk (st := s_as_count) l4 c4 k4
  have F5 := fun_mk (st := s_is_character) l5 c5 k5
  have F6 := fun_mk (st := s_Coast_init) l6 c6 k6
  have F7 := fun_mk (st := s_text_of) l7 c7 k7
  have F8 := fun_mk (st := s_character_in) l8 c8 k8
  have F9 := fun_mk (st := s_coast_text) l9 c9 k9
  have F10 := fun_mk (st := s_read_coast) l10 c10 k10
  have F11 := fun_mk (st := s_law_taken) l11 c11 k11
  have F12 := fun_mk (st := s_law_pick) l12 c12 k12
  have F13 := fun_mk (st := s_law_pickQ) l13 c13 k13
  have F14 := fun_mk (st := s_law_alike) l14 c14 k14
  have F15 := fun_mk (st := s_law_name) l15 c15 k15
  have F16 := fun_mk (st := s_law_names) l16 c16 k16
  have F17 := fun_mk (st := s_law_character) l17 c17 k17
  have F18 := fun_mk (st := s_law_core) l18 c18 k18
  have F19 := fun_mk (st := s_law_turns) l19 c19 k19
  have F20 := fun_mk (st := s_law_coast) l20 c20 k20
  have F21 := fun_mk (st := s_law_text) l21 c21 k21
  have F22 := fun_mk (st := s_law_told) l22 c22 k22
  have F23 := fun_mk (st := s_law) l23 c23 k23
  have T : Top K mg := {
    t_is_row := ⟨_, _, F0, PySem.W.mg_of X G a0, F0.binds (ps := ["thing"]) fun _ _ _ _ _ _ us hl => match us, hl with | [_], _ => rfl⟩,
    t_is_tuple_of := ⟨_, _, F1, PySem.W.mg_of X G a1, F1.binds (ps := ["thing", "many"]) fun _ _ _ _ _ _ us hl => match us, hl with | [_, _], _ => rfl⟩,
    t_is_name := ⟨_, _, F2, PySem.W.mg_of X G a2, F2.binds (ps := ["thing"]) fun _ _ _ _ _ _ us hl => match us, hl with | [_], _ => rfl⟩,
    t_is_of_signs := ⟨_, _, F3, PySem.W.mg_of X G a3, F3.binds (ps := ["thing", "signs"]) fun _ _ _ _ _ _ us hl => match us, hl with | [_, _], _ => rfl⟩,
    t_as_count := ⟨_, _, F4, PySem.W.mg_of X G a4, F4.binds (ps := ["word", "most"]) fun _ _ _ _ _ _ us hl => match us, hl with | [_, _], _ => rfl⟩,
    t_is_character := ⟨_, _, F5, PySem.W.mg_of X G a5, F5.binds (ps := ["thing"]) fun _ _ _ _ _ _ us hl => match us, hl with | [_], _ => rfl⟩,
    t_Coast_init := ⟨K_Coast, _, _, F6, ⟨mkK_Coast, a6, i6, kcK_Coast⟩, PySem.W.mg_of X G aK_Coast, F6.binds (ps := ["self", "lights"]) fun _ _ _ _ _ _ us hl => match us, hl with | [_, _], _ => rfl⟩,
    t_text_of := ⟨_, _, F7, PySem.W.mg_of X G a7, F7.binds (ps := ["character"]) fun _ _ _ _ _ _ us hl => match us, hl with | [_], _ => rfl⟩,
    t_character_in := ⟨_, _, F8, PySem.W.mg_of X G a8, F8.binds (ps := ["text"]) fun _ _ _ _ _ _ us hl => match us, hl with | [_], _ => rfl⟩,
    t_coast_text := ⟨_, _, F9, PySem.W.mg_of X G a9, F9.binds (ps := ["coast"]) fun _ _ _ _ _ _ us hl => match us, hl with | [_], _ => rfl⟩,
    t_read_coast := ⟨_, _, F10, PySem.W.mg_of X G a10, F10.binds (ps := ["text"]) fun _ _ _ _ _ _ us hl => match us, hl with | [_], _ => rfl⟩,
    t_law_taken := ⟨_, _, F11, PySem.W.mg_of X G a11, F11.binds (ps := ["row", "many"]) fun _ _ _ _ _ _ us hl => match us, hl with | [_, _], _ => rfl⟩,
    t_law_pick := ⟨_, _, F12, PySem.W.mg_of X G a12, F12.binds (ps := ["row", "some"]) fun _ _ _ _ _ _ us hl => match us, hl with | [_, _], _ => rfl⟩,
    t_law_pickQ := ⟨_, _, F13, PySem.W.mg_of X G a13, F13.binds (ps := ["row", "some"]) fun _ _ _ _ _ _ us hl => match us, hl with | [_, _], _ => rfl⟩,
    t_law_alike := ⟨_, _, F14, PySem.W.mg_of X G a14, F14.binds (ps := ["found", "due"]) fun _ _ _ _ _ _ us hl => match us, hl with | [_, _], _ => rfl⟩,
    t_law_name := ⟨_, _, F15, PySem.W.mg_of X G a15, F15.binds (ps := ["row"]) fun _ _ _ _ _ _ us hl => match us, hl with | [_], _ => rfl⟩,
    t_law_names := ⟨_, _, F16, PySem.W.mg_of X G a16, F16.binds (ps := ["row", "many"]) fun _ _ _ _ _ _ us hl => match us, hl with | [_, _], _ => rfl⟩,
    t_law_character := ⟨_, _, F17, PySem.W.mg_of X G a17, F17.binds (ps := ["row", "most"]) fun _ _ _ _ _ _ us hl => match us, hl with | [_, _], _ => rfl⟩,
    t_law_core := ⟨_, _, F18, PySem.W.mg_of X G a18, F18.binds (ps := ["character"]) fun _ _ _ _ _ _ us hl => match us, hl with | [_], _ => rfl⟩,
    t_law_turns := ⟨_, _, F19, PySem.W.mg_of X G a19, F19.binds (ps := ["character"]) fun _ _ _ _ _ _ us hl => match us, hl with | [_], _ => rfl⟩,
    t_law_coast := ⟨_, _, F20, PySem.W.mg_of X G a20, F20.binds (ps := ["row", "lights", "most"]) fun _ _ _ _ _ _ us hl => match us, hl with | [_, _, _], _ => rfl⟩,
    t_law_text := ⟨_, _, F21, PySem.W.mg_of X G a21, F21.binds (ps := ["character"]) fun _ _ _ _ _ _ us hl => match us, hl with | [_], _ => rfl⟩,
    t_law_told := ⟨_, _, F22, PySem.W.mg_of X G a22, F22.binds (ps := ["text"]) fun _ _ _ _ _ _ us hl => match us, hl with | [_], _ => rfl⟩,
    t_law := ⟨_, _, F23, PySem.W.mg_of X G a23, F23.binds (ps := ["script"]) fun _ _ _ _ _ _ us hl => match us, hl with | [_], _ => rfl⟩,
    f_Coast_lights := ⟨K_Coast, PySem.W.mg_of X G aK_Coast, ⟨pgK_Coast, hdK_Coast, poK_Coast, saK_Coast⟩, nK_Coast_lights⟩,
    f_Coast_names := ⟨K_Coast, PySem.W.mg_of X G aK_Coast, ⟨pgK_Coast, hdK_Coast, poK_Coast, saK_Coast⟩, nK_Coast_names⟩,
    b_ValueError := PySem.W.mg_none_of X G z_ValueError,
    b_all := PySem.W.mg_none_of X G z_all,
    b_bool := PySem.W.mg_none_of X G z_bool,
    b_dict := PySem.W.mg_none_of X G z_dict,
    b_enumerate := PySem.W.mg_none_of X G z_enumerate,
    b_int := PySem.W.mg_none_of X G z_int,
    b_isinstance := PySem.W.mg_none_of X G z_isinstance,
    b_len := PySem.W.mg_none_of X G z_len,
    b_list := PySem.W.mg_none_of X G z_list,
    b_range := PySem.W.mg_none_of X G z_range,
    b_str := PySem.W.mg_none_of X G z_str,
    b_tuple := PySem.W.mg_none_of X G z_tuple,
    g_LETTERS := ⟨gt_LETTERS, by rw [← e_LETTERS]; exact PySem.W.mg_of X G g_LETTERS⟩,
    g_MOST_LENGTH := ⟨gt_MOST_LENGTH, by rw [← e_MOST_LENGTH]; exact PySem.W.mg_of X G g_MOST_LENGTH⟩,
    g_MOST_LIGHTS := ⟨gt_MOST_LIGHTS, by rw [← e_MOST_LIGHTS]; exact PySem.W.mg_of X G g_MOST_LIGHTS⟩,
    g_MOST_NAME := ⟨gt_MOST_NAME, by rw [← e_MOST_NAME]; exact PySem.W.mg_of X G g_MOST_NAME⟩,
    g_SIGNS := ⟨gt_SIGNS, by rw [← e_SIGNS]; exact PySem.W.mg_of X G g_SIGNS⟩,
    ext0 := ⟨B, PySem.W.mg_of X G aB, by
      rw [forall_mem_list]
      exact ⟨⟨C_BadLights, PySem.W.mg_of X G aC_BadLights, ⟨cl_BadLights, hg_BadLights, hk_BadLights, eC_BadLights, ha_BadLights, hn, ht, mo_BadLights, hC_BadLights, hv_BadLights⟩, xm0_BadLights, kV0_BadLights, by
        rw [forall_mem_list]
        exact ⟨⟨C_BadRow, PySem.W.mg_of X G aC_BadRow, by rw [ki0_BadLights_BadRow]; decide⟩, trivial⟩⟩, ⟨C_BadRow, PySem.W.mg_of X G aC_BadRow, ⟨cl_BadRow, hg_BadRow, hk_BadRow, eC_BadRow, ha_BadRow, hn, ht, mo_BadRow, hC_BadRow, hv_BadRow⟩, xm0_BadRow, kV0_BadRow, by
        rw [forall_mem_list]
        exact ⟨⟨C_BadRow, PySem.W.mg_of X G aC_BadRow, by rw [ki0_BadRow_BadRow]; decide⟩, trivial⟩⟩, trivial⟩⟩ }
  have FI : FunD K "__init__" "CoastError.__init__" (defArgs s_init) (defBody s_init) (defScope s_init) [.non] [] fI (PySem.W.fnOf "__init__" "CoastError.__init__" (defArgs s_init) (defBody s_init) (defScope s_init) (.ref dT) kVI dcI pmI anI cdI ctI) := ⟨⟨_, _, _, _, _, _, _, _, _, _, rfl, lI, cI, .inr ⟨by simp, dT, _, [Value.none], nT, rfl, lT, rfl, .cons rfl .nil⟩, .inl rfl⟩, kI⟩
  have bI : L2.Binds K (PySem.W.fnOf "__init__" "CoastError.__init__" (defArgs s_init) (defBody s_init) (defScope s_init) (.ref dT) kVI dcI pmI anI cdI ctI) ["self", "value"] [] := by
    obtain ⟨ds, hv, b⟩ := FI.binds1 (ps := ["self", "value"]) 2 1 (by simp) rfl (fun T kV doc pm an cdv ct us its h1 h2 => match us, its, h1, h2 with | [_, _], [_], _, _ => ⟨_, rfl, rfl⟩)
    cases hv; exact b
  refine ⟨PySem.W.fnOf "law" "law" (defArgs s_law) (defBody s_law) (defScope s_law) .none kV23 dc23 pm23 an23 cd23 ct23, fun s v => .of_eq rfl, fun base _ _ => ?_⟩
  have TX : Tex w K mg base := {
    none := trivial,
    x_BadLights := ⟨C_BadLights, fI, _, PySem.W.mg_of X G aC_BadLights, ⟨⟨nm_BadLights, q_BadLights, N_BadLights, bs_BadLights, bm_BadLights, sn_BadLights, sub_BadLights, ab_BadLights, col_BadLights, dd_BadLights, m0_BadLights, m1_BadLights, m2_BadLights, m3_BadLights, m5_BadLights, xL_BadLights, rv_BadLights⟩, sa_BadLights, eC_BadLights, tC_BadLights, kC_BadLights⟩, iC_BadLights, tI, hv_BadLights, fn_init FI sc_init rfl rfl rfl, bI⟩,
    x_BadRow := ⟨C_BadRow, fI, _, PySem.W.mg_of X G aC_BadRow, ⟨⟨nm_BadRow, q_BadRow, N_BadRow, bs_BadRow, bm_BadRow, sn_BadRow, sub_BadRow, ab_BadRow, col_BadRow, dd_BadRow, m0_BadRow, m1_BadRow, m2_BadRow, m3_BadRow, m5_BadRow, xL_BadRow, rv_BadRow⟩, sa_BadRow, eC_BadRow, tC_BadRow, kC_BadRow⟩, iC_BadRow, tI, hv_BadRow, fn_init FI sc_init rfl rfl rfl, bI⟩,
    d_LETTERS_OF := ⟨gd_LETTERS_OF, PySem.W.mg_of X G dg_LETTERS_OF, by
      rw [show ([([35], [76]), ([46], [68])] : List (List Nat × List Nat)).map (fun q => S q.1) = [("#" : Str), ("." : Str)] by decide +kernel]
      exact dw_LETTERS_OF, fun q hq => by
      simp only [List.mem_cons, List.not_mem_nil, or_false] at hq
      rcases hq with rfl | rfl
      · exact ⟨gt_LETTERS_OF_0, by rw [show S [35] = ("#" : Str) by decide +kernel, ← de_LETTERS_OF_0]; exact dn_LETTERS_OF_0⟩
      · exact ⟨gt_LETTERS_OF_1, by rw [show S [46] = ("." : Str) by decide +kernel, ← de_LETTERS_OF_1]; exact dn_LETTERS_OF_1⟩⟩,
    d_SIGNS_OF := ⟨gd_SIGNS_OF, PySem.W.mg_of X G dg_SIGNS_OF, by
      rw [show ([([76], [35]), ([68], [46])] : List (List Nat × List Nat)).map (fun q => S q.1) = [("L" : Str), ("D" : Str)] by decide +kernel]
      exact dw_SIGNS_OF, fun q hq => by
      simp only [List.mem_cons, List.not_mem_nil, or_false] at hq
      rcases hq with rfl | rfl
      · exact ⟨gt_SIGNS_OF_0, by rw [show S [76] = ("L" : Str) by decide +kernel, ← de_SIGNS_OF_0]; exact dn_SIGNS_OF_0⟩
      · exact ⟨gt_SIGNS_OF_1, by rw [show S [68] = ("D" : Str) by decide +kernel, ← de_SIGNS_OF_1]; exact dn_SIGNS_OF_1⟩⟩ }
  have c_is_row := c_is_row T TX 
  have c_is_tuple_of := c_is_tuple_of T TX 
  have c_is_name := c_is_name T TX 
  have c_is_of_signs := c_is_of_signs T TX 
  have c_as_count := c_as_count T TX c_is_of_signs
  have c_is_character := c_is_character T TX c_is_of_signs
  have c_Coast_init := c_Coast_init T TX c_is_row c_is_tuple_of c_is_name c_is_character
  have c_text_of := c_text_of T TX 
  have c_character_in := c_character_in T TX c_as_count
  have c_coast_text := c_coast_text T TX c_text_of
  have c_read_coast := c_read_coast T TX c_character_in c_is_name c_Coast_init
  have c_law_taken := c_law_taken T TX 
  have c_law_pick := c_law_pick T TX c_law_taken
  have c_law_pickQ := c_law_pickQ T TX c_law_taken
  have c_law_alike := c_law_alike T TX  8
  have c_law_name := c_law_name T TX c_law_taken
  have c_law_names := c_law_names T TX c_law_name
  have c_law_character := c_law_character T TX c_law_taken
  have c_law_core := c_law_core T TX 
  have c_law_turns := c_law_turns T TX c_law_core
  have c_law_coast := c_law_coast T TX c_law_names c_law_taken c_law_character c_law_pick c_law_turns c_law_pickQ
  have c_law_text := c_law_text T TX 
  have c_law_told := c_law_told T TX c_read_coast
  exact fn_law (fn_pure F23 sc_law (by rfl) (by decide) (b_law T TX c_law_coast c_law_taken c_law_text c_law_alike c_coast_text c_Coast_init c_law_told c_law_pick _)) yes
end K31
open PySem PySem.W PyProof.Rows
set_option maxHeartbeats 0 in
theorem PySem.Challenge.cw_lightsapart_k31_texts_of_coasts_holds : PySem.Challenge.rw_lightsapart_k31_texts_of_coasts.Holds := by
  w_on; o_law; k_head; (case hw => w_witness2)
  k_fill
  refine L2.walk_of (l := PySem.Challenge.rw_lightsapart_k31_texts_of_coasts) (n := 63) (k := 10) (x := "script") (CX := fun w => L2.CX K31.PR w) (sp := fun w => L3.spLaw _) rfl (by decide) rfl ⟨rfl, by decide, by decide⟩ (fun w h Y => PySem.W.kIn_of Y) ?F (fun _ _ a ns hl _ hS => ⟨a, ns, rfl, hS, hl, fun _ => rfl⟩) (fun w H s e s' q => by obtain ⟨_, _, _, _, _, _, _, _, _, _, _, _, z⟩ := q; exact z)
  case F =>
    intro w mg fa h KX G hmg
    refine' K31.all_mk KX G hmg K31.yes ?aK_Coast ?pgK_Coast ?hdK_Coast ?poK_Coast ?saK_Coast ?mkK_Coast ?kcK_Coast ?nK_Coast_lights ?nK_Coast_names ?a0 ?l0 ?c0 ?k0 ?a1 ?l1 ?c1 ?k1 ?a2 ?l2 ?c2 ?k2 ?a3 ?l3 ?c3 ?k3 ?a4 ?l4 ?c4 ?k4 ?a5 ?l5 ?c5 ?k5 ?a6 ?i6 ?l6 ?c6 ?k6 ?a7 ?l7 ?c7 ?k7 ?a8 ?l8 ?c8 ?k8 ?a9 ?l9 ?c9 ?k9 ?a10 ?l10 ?c10 ?k10 ?a11 ?l11 ?c11 ?k11 ?a12 ?l12 ?c12 ?k12 ?a13 ?l13 ?c13 ?k13 ?a14 ?l14 ?c14 ?k14 ?a15 ?l15 ?c15 ?k15 ?a16 ?l16 ?c16 ?k16 ?a17 ?l17 ?c17 ?k17 ?a18 ?l18 ?c18 ?k18 ?a19 ?l19 ?c19 ?k19 ?a20 ?l20 ?c20 ?k20 ?a21 ?l21 ?c21 ?k21 ?a22 ?l22 ?c22 ?k22 ?a23 ?l23 ?c23 ?k23 ?z_ValueError ?z_all ?z_bool ?z_dict ?z_enumerate ?z_int ?z_isinstance ?z_len ?z_list ?z_range ?z_str ?z_tuple ?g_LETTERS ?e_LETTERS ?g_MOST_LENGTH ?e_MOST_LENGTH ?g_MOST_LIGHTS ?e_MOST_LIGHTS ?g_MOST_NAME ?e_MOST_NAME ?g_SIGNS ?e_SIGNS ?dg_LETTERS_OF ?dw_LETTERS_OF ?dn_LETTERS_OF_0 ?de_LETTERS_OF_0 ?dn_LETTERS_OF_1 ?de_LETTERS_OF_1 ?dg_SIGNS_OF ?dw_SIGNS_OF ?dn_SIGNS_OF_0 ?de_SIGNS_OF_0 ?dn_SIGNS_OF_1 ?de_SIGNS_OF_1 ?aB ?iB ?lI ?cI ?kI ?lT ?tI ?hn ?ht ?aC_BadLights ?xL_BadLights ?rv_BadLights ?sa_BadLights ?hg_BadLights ?hk_BadLights ?hv_BadLights ?iC_BadLights ?kC_BadLights ?eC_BadLights ?tC_BadLights ?hC_BadLights ?cl_BadLights ?ha_BadLights ?mo_BadLights ?aC_BadRow ?xL_BadRow ?rv_BadRow ?sa_BadRow ?hg_BadRow ?hk_BadRow ?hv_BadRow ?iC_BadRow ?kC_BadRow ?eC_BadRow ?tC_BadRow ?hC_BadRow ?cl_BadRow ?ha_BadRow ?mo_BadRow ?xm0_BadLights ?kV0_BadLights ?ki0_BadLights_BadRow ?xm0_BadRow ?kV0_BadRow ?ki0_BadRow_BadRow
    (case aK_Coast => k_is)
    (case pgK_Coast => k_is)
    (case hdK_Coast => k_is)
    (case poK_Coast => k_is)
    (case saK_Coast => k_is)
    (case mkK_Coast => k_is)
    (case kcK_Coast => k_is)
    (case nK_Coast_lights => k_is)
    (case nK_Coast_names => k_is)
    (case a0 => k_is)
    (case l0 => k_is)
    (case c0 => k_is)
    (case k0 => k_is)
    (case a1 => k_is)
    (case l1 => k_is)
    (case c1 => k_is)
    (case k1 => k_is)
    (case a2 => k_is)
    (case l2 => k_is)
    (case c2 => k_is)
    (case k2 => k_is)
    (case a3 => k_is)
    (case l3 => k_is)
    (case c3 => k_is)
    (case k3 => k_is)
    (case a4 => k_is)
    (case l4 => k_is)
    (case c4 => k_is)
    (case k4 => k_is)
    (case a5 => k_is)
    (case l5 => k_is)
    (case c5 => k_is)
    (case k5 => k_is)
    (case a6 => k_is)
    (case i6 => k_is)
    (case l6 => k_is)
    (case c6 => k_is)
    (case k6 => k_is)
    (case a7 => k_is)
    (case l7 => k_is)
    (case c7 => k_is)
    (case k7 => k_is)
    (case a8 => k_is)
    (case l8 => k_is)
    (case c8 => k_is)
    (case k8 => k_is)
    (case a9 => k_is)
    (case l9 => k_is)
    (case c9 => k_is)
    (case k9 => k_is)
    (case a10 => k_is)
    (case l10 => k_is)
    (case c10 => k_is)
    (case k10 => k_is)
    (case a11 => k_is)
    (case l11 => k_is)
    (case c11 => k_is)
    (case k11 => k_is)
    (case a12 => k_is)
    (case l12 => k_is)
    (case c12 => k_is)
    (case k12 => k_is)
    (case a13 => k_is)
    (case l13 => k_is)
    (case c13 => k_is)
    (case k13 => k_is)
    (case a14 => k_is)
    (case l14 => k_is)
    (case c14 => k_is)
    (case k14 => k_is)
    (case a15 => k_is)
    (case l15 => k_is)
    (case c15 => k_is)
    (case k15 => k_is)
    (case a16 => k_is)
    (case l16 => k_is)
    (case c16 => k_is)
    (case k16 => k_is)
    (case a17 => k_is)
    (case l17 => k_is)
    (case c17 => k_is)
    (case k17 => k_is)
    (case a18 => k_is)
    (case l18 => k_is)
    (case c18 => k_is)
    (case k18 => k_is)
    (case a19 => k_is)
    (case l19 => k_is)
    (case c19 => k_is)
    (case k19 => k_is)
    (case a20 => k_is)
    (case l20 => k_is)
    (case c20 => k_is)
    (case k20 => k_is)
    (case a21 => k_is)
    (case l21 => k_is)
    (case c21 => k_is)
    (case k21 => k_is)
    (case a22 => k_is)
    (case l22 => k_is)
    (case c22 => k_is)
    (case k22 => k_is)
    (case a23 => k_is)
    (case l23 => k_is)
    (case c23 => k_is)
    (case k23 => k_is)
    (case z_ValueError => k_is)
    (case z_all => k_is)
    (case z_bool => k_is)
    (case z_dict => k_is)
    (case z_enumerate => k_is)
    (case z_int => k_is)
    (case z_isinstance => k_is)
    (case z_len => k_is)
    (case z_list => k_is)
    (case z_range => k_is)
    (case z_str => k_is)
    (case z_tuple => k_is)
    (case g_LETTERS => k_is)
    (case e_LETTERS => first | rfl | decide +kernel)
    (case g_MOST_LENGTH => k_is)
    (case e_MOST_LENGTH => first | rfl | decide +kernel)
    (case g_MOST_LIGHTS => k_is)
    (case e_MOST_LIGHTS => first | rfl | decide +kernel)
    (case g_MOST_NAME => k_is)
    (case e_MOST_NAME => first | rfl | decide +kernel)
    (case g_SIGNS => k_is)
    (case e_SIGNS => first | rfl | decide +kernel)
    (case dg_LETTERS_OF => k_is)
    (case dw_LETTERS_OF => first | k_is | rfl | decide +kernel)
    (case dn_LETTERS_OF_0 => k_is)
    (case de_LETTERS_OF_0 => first | rfl | decide +kernel)
    (case dn_LETTERS_OF_1 => k_is)
    (case de_LETTERS_OF_1 => first | rfl | decide +kernel)
    (case dg_SIGNS_OF => k_is)
    (case dw_SIGNS_OF => first | k_is | rfl | decide +kernel)
    (case dn_SIGNS_OF_0 => k_is)
    (case de_SIGNS_OF_0 => first | rfl | decide +kernel)
    (case dn_SIGNS_OF_1 => k_is)
    (case de_SIGNS_OF_1 => first | rfl | decide +kernel)
    (case aB => k_is)
    (case iB => k_is)
    (case lI => k_is)
    (case cI => k_is)
    (case kI => k_is)
    (case lT => k_is)
    (case tI => k_is)
    (case hn => k_is)
    (case ht => k_is)
    (case aC_BadLights => k_is)
    (case xL_BadLights => k_is)
    (case rv_BadLights => first | rfl | decide +kernel)
    (case sa_BadLights => k_is)
    (case hg_BadLights => k_is)
    (case hk_BadLights => k_is)
    (case hv_BadLights => k_is)
    (case iC_BadLights => k_is)
    (case kC_BadLights => k_is)
    (case eC_BadLights => k_is)
    (case tC_BadLights => k_is)
    (case hC_BadLights => k_is)
    (case cl_BadLights => k_is)
    (case ha_BadLights => k_is)
    (case mo_BadLights => k_is)
    (case aC_BadRow => k_is)
    (case xL_BadRow => k_is)
    (case rv_BadRow => first | rfl | decide +kernel)
    (case sa_BadRow => k_is)
    (case hg_BadRow => k_is)
    (case hk_BadRow => k_is)
    (case hv_BadRow => k_is)
    (case iC_BadRow => k_is)
    (case kC_BadRow => k_is)
    (case eC_BadRow => k_is)
    (case tC_BadRow => k_is)
    (case hC_BadRow => k_is)
    (case cl_BadRow => k_is)
    (case ha_BadRow => k_is)
    (case mo_BadRow => k_is)
    (case xm0_BadLights => first | k_is | rfl | decide +kernel)
    (case kV0_BadLights => first | k_is | rfl | decide +kernel)
    (case ki0_BadLights_BadRow => first | k_is | rfl | decide +kernel)
    (case xm0_BadRow => first | k_is | rfl | decide +kernel)
    (case kV0_BadRow => first | k_is | rfl | decide +kernel)
    (case ki0_BadRow_BadRow => first | k_is | rfl | decide +kernel)
