import PyProof.Rows.All
import Wide.All
import OpenK.AllK
import Wide.FinOn
import Lean
import PyProof.EqAt
import PyProof.EqKinds
import PyProof.TupleCall
import HandS.ForMost
import HandS.Exc
import HandS.Flow
import HandS.Style
import KE.GoesEnum
import KE.KTurns
import HandS.Zip
import HandS.FStr
import HandS.TupLen
import HandS.Wide
import HandS.Deep
import HandS.Text
import HandS.Defaults
import HandS.HeadHook2
import HandS.SlotsOwn
import HandS.IsInst
import HandS.Codes
import KE.SortData
import HandS.DictComp
import HandS.SetBool
import HandS.TupSets
import HandS.SetKeys
import HandS.DictTup
import PyProof.DictMoreH
import HandS.ExcInit
import KE.KExcSuper
import HandS.Lambda
import HandS.ExcField
import HandS.EndTab
import HandS.HeadWalk
import HandS.HeadHook4
import HandS.Head3
import HandS.Conv
import KE.DataMinMax
import PyProof.Claim2Refuses
import PySem.Challenge.RW_leastfetched_k80_whole_parts
set_option Elab.async false
set_option linter.all false
set_option maxRecDepth 100000
set_option maxHeartbeats 4000000
/-! L3Base -/
/-! L3Base: values as trees over the hand layer. D: data; Mu: the objects that may still change, by their addresses; U: addresses that no tree leans on. -/
namespace L3
open PySem PySem.Spec PyProof.Rows L2

/-- data: what no one changes is a tree; own a: the object at a (a changing one, a def, a class) -/
inductive D where
  | non | bl (b : Bool) | int (i : Int) | str (s : Str) | ty (n : String)
  | lst (xs : List D) | tup (xs : List D)
  | fz (xs : List D)
  | ins (C : Addr) (fs : List (Str × D))
  | dK (kvs : List (Key × D)) | dT (kvs : List (List Key × D))
  | own (a : Addr)
/-- what stands at an address that may change -/
inductive MO where
  | lst (xs : List D)
  | ins (C : Addr) (fs : List (Str × D))
  | dK (kvs : List (Key × D)) | dT (kvs : List (List Key × D))
def MO.tree : MO → D
  | .lst xs => .lst xs
  | .ins C fs => .ins C fs
  | .dK kvs => .dK kvs
  | .dT kvs => .dT kvs
abbrev Mu := Addr → Option MO
def mset (μ : Mu) (a : Addr) (o : MO) : Mu := fun b => if b = a then some o else μ b
def mdel (μ : Mu) (a : Addr) : Mu := fun b => if b = a then none else μ b
theorem mset_same {μ : Mu} {a : Addr} {o : MO} : mset μ a o a = some o := by unfold mset; rw [if_pos rfl]
theorem mset_ne {μ : Mu} {a b : Addr} {o : MO} (h : b ≠ a) : mset μ a o b = μ b := by unfold mset; rw [if_neg h]
theorem mset_mset {μ : Mu} {a : Addr} {o u : MO} : mset (mset μ a o) a u = mset μ a u := by
  funext b; unfold mset; split <;> rfl
theorem mdel_same {μ : Mu} {a : Addr} : mdel μ a a = none := by unfold mdel; rw [if_pos rfl]
theorem mdel_ne {μ : Mu} {a b : Addr} (h : b ≠ a) : mdel μ a b = μ b := by unfold mdel; rw [if_neg h]
theorem mdel_mset {μ : Mu} {a : Addr} {o : MO} (h : μ a = none) : mdel (mset μ a o) a = μ := by
  funext b
  unfold mdel mset
  by_cases e : b = a
  · subst e; rw [if_pos rfl, h]
  · rw [if_neg e, if_neg e]

abbrev Hid := Addr → Prop
/-- a list of the written part -/
def KSq (K : PySem.W.Frag) (a : Addr) (xs : List V) : Prop := ∃ (o : Obj) (its : Array Value) (n : Nat), K.lookup a = some o ∧ o.cls = .type "list" ∧ o.dict = none ∧ o.data = .seq its n ∧ its.size ≤ sizeLine ∧ Vals xs its.toList
mutual
inductive RepV (K : PySem.W.Frag) (H : Hp) (μ : Mu) (U : Hid) : V → D → Prop
  | non : RepV K H μ U .non .non
  | bl (b : Bool) : RepV K H μ U (.bl b) (.bl b)
  | int (i : Int) : RepV K H μ U (.int i) (.int i)
  | str (s : Str) : RepV K H μ U (.str s) (.str s)
  | ty (n : String) : RepV K H μ U (.ty n) (.ty n)
  | own (a : Addr) : RepV K H μ U (.ref a) (.own a)
  | lst {a : Addr} {vs : List V} {ds : List D} (h : H a = some (.lst vs)) (n : μ a = none) (u : ¬ U a) (r : RepL K H μ U vs ds) : RepV K H μ U (.ref a) (.lst ds)
  | fz {a : Addr} {vs : List V} {ds : List D} (h : (Rd H a (.lst vs) ∧ μ a = none ∧ ¬ U a) ∨ KSq K a vs) (r : RepL K H μ U vs ds) : RepV K H μ U (.ref a) (.fz ds)
  | tup {a : Addr} {vs : List V} {ds : List D} (h : H a = some (.tup vs)) (n : μ a = none) (u : ¬ U a) (r : RepL K H μ U vs ds) : RepV K H μ U (.ref a) (.tup ds)
  | ins {a C dx : Addr} {fs : List (Str × V)} {gs : List (Str × D)} (h : H a = some (.ins C dx fs)) (n : μ a = none) (u : ¬ U a) (e : fs.map (·.1) = gs.map (·.1)) (r : RepL K H μ U (fs.map (·.2)) (gs.map (·.2))) : RepV K H μ U (.ref a) (.ins C gs)
  | dK {a : Addr} {fs : List (Key × V)} {gs : List (Key × D)} (h : H a = some (.dK fs)) (n : μ a = none) (u : ¬ U a) (e : fs.map (·.1) = gs.map (·.1)) (r : RepL K H μ U (fs.map (·.2)) (gs.map (·.2))) : RepV K H μ U (.ref a) (.dK gs)
  | dT {a : Addr} {fs : List (List Key × V)} {gs : List (List Key × D)} (h : H a = some (.dT fs)) (n : μ a = none) (u : ¬ U a) (e : fs.map (·.1) = gs.map (·.1)) (r : RepL K H μ U (fs.map (·.2)) (gs.map (·.2))) : RepV K H μ U (.ref a) (.dT gs)
inductive RepL (K : PySem.W.Frag) (H : Hp) (μ : Mu) (U : Hid) : List V → List D → Prop
  | nil : RepL K H μ U [] []
  | cons {v : V} {d : D} {vs : List V} {ds : List D} (r : RepV K H μ U v d) (t : RepL K H μ U vs ds) : RepL K H μ U (v :: vs) (d :: ds)
end

/-- what trees lean on stays -/
def Keep (H : Hp) (μ : Mu) (U : Hid) (H' : Hp) (μ' : Mu) (U' : Hid) : Prop := ∀ b o, H b = some o → μ b = none → ¬ U b → H' b = some o ∧ μ' b = none ∧ ¬ U' b
theorem Keep.rd {H H' : Hp} {μ μ' : Mu} {U U' : Hid} (s : Keep H μ U H' μ' U') {a : Addr} {u : HO} (h : Rd H a u) (n : μ a = none) (hu : ¬ U a) : Rd H' a u ∧ μ' a = none ∧ ¬ U' a := by
  rcases h with h | ⟨o, h⟩
  · exact ⟨.inl (s a _ h n hu).1, (s a _ h n hu).2⟩
  · exact ⟨.inr ⟨o, (s a _ h n hu).1⟩, (s a _ h n hu).2⟩
mutual
theorem RepV.keep {K : PySem.W.Frag} {H H' : Hp} {μ μ' : Mu} {U U' : Hid} (s : Keep H μ U H' μ' U') : ∀ {v : V} {d : D}, RepV K H μ U v d → RepV K H' μ' U' v d
  | _, _, .non => .non
  | _, _, .bl b => .bl b
  | _, _, .int i => .int i
  | _, _, .str x => .str x
  | _, _, .ty n => .ty n
  | _, _, .own a => .own a
  | _, _, .lst h n u r => .lst (s _ _ h n u).1 (s _ _ h n u).2.1 (s _ _ h n u).2.2 (RepL.keep s r)
  | _, _, .fz h r => .fz (h.imp (fun h => s.rd h.1 h.2.1 h.2.2) id) (RepL.keep s r)
  | _, _, .tup h n u r => .tup (s _ _ h n u).1 (s _ _ h n u).2.1 (s _ _ h n u).2.2 (RepL.keep s r)
  | _, _, .ins h n u e r => .ins (s _ _ h n u).1 (s _ _ h n u).2.1 (s _ _ h n u).2.2 e (RepL.keep s r)
  | _, _, .dK h n u e r => .dK (s _ _ h n u).1 (s _ _ h n u).2.1 (s _ _ h n u).2.2 e (RepL.keep s r)
  | _, _, .dT h n u e r => .dT (s _ _ h n u).1 (s _ _ h n u).2.1 (s _ _ h n u).2.2 e (RepL.keep s r)
theorem RepL.keep {K : PySem.W.Frag} {H H' : Hp} {μ μ' : Mu} {U U' : Hid} (s : Keep H μ U H' μ' U') : ∀ {vs : List V} {ds : List D}, RepL K H μ U vs ds → RepL K H' μ' U' vs ds
  | _, _, .nil => .nil
  | _, _, .cons r t => .cons (RepV.keep s r) (RepL.keep s t)
end

/-- what was tracked and not changing stays, the hidden too -/
def Step (H : Hp) (μ : Mu) (H' : Hp) (μ' : Mu) : Prop := ∀ b o, H b = some o → μ b = none → H' b = some o ∧ μ' b = none
theorem Step.refl (H : Hp) (μ : Mu) : Step H μ H μ := fun _ _ h n => ⟨h, n⟩
theorem Step.trans {H H1 H2 : Hp} {μ μ1 μ2 : Mu} (a : Step H μ H1 μ1) (b : Step H1 μ1 H2 μ2) : Step H μ H2 μ2 := fun c o h n => let ⟨h1, n1⟩ := a c o h n; b c o h1 n1
theorem Step.kp {H H' : Hp} {μ μ' : Mu} (s : Step H μ H' μ') (U : Hid) : Keep H μ U H' μ' U := fun b o h n u => ⟨(s b o h n).1, (s b o h n).2, u⟩
theorem Step.rd {H H' : Hp} {μ μ' : Mu} (s : Step H μ H' μ') {a : Addr} {u : HO} (h : Rd H a u) (n : μ a = none) : Rd H' a u ∧ μ' a = none := by
  rcases h with h | ⟨o, h⟩
  · exact ⟨.inl (s a _ h n).1, (s a _ h n).2⟩
  · exact ⟨.inr ⟨o, (s a _ h n).1⟩, (s a _ h n).2⟩
theorem RepV.step {K : PySem.W.Frag} {H H' : Hp} {μ μ' : Mu} {U : Hid} {v : V} {d : D} (s : Step H μ H' μ') (r : RepV K H μ U v d) : RepV K H' μ' U v d := r.keep (s.kp U)
theorem RepL.step {K : PySem.W.Frag} {H H' : Hp} {μ μ' : Mu} {U : Hid} {vs : List V} {ds : List D} (s : Step H μ H' μ') (r : RepL K H μ U vs ds) : RepL K H' μ' U vs ds := r.keep (s.kp U)
theorem keep_hid {H : Hp} {μ : Mu} {U U' : Hid} (h : ∀ b, U' b → U b) : Keep H μ U H μ U' := fun b o e n u => ⟨e, n, fun z => u (h b z)⟩

section
variable {K : PySem.W.Frag} {H : Hp} {μ : Mu} {U : Hid}
theorem RepL.length : ∀ {vs : List V} {ds : List D}, RepL K H μ U vs ds → vs.length = ds.length
  | _, _, .nil => rfl
  | _, _, .cons _ t => congrArg (· + 1) (RepL.length t)
theorem RepL.get : ∀ {vs : List V} {ds : List D} {i : Nat} {d : D}, RepL K H μ U vs ds → ds[i]? = some d → ∃ v, vs[i]? = some v ∧ RepV K H μ U v d
  | _, _, _, _, .nil, e => by simp at e
  | _, _, 0, _, .cons r _, e => by simp at e; subst e; exact ⟨_, rfl, r⟩
  | _, _, i + 1, d, .cons _ t, e => by
    obtain ⟨v, h1, h2⟩ := RepL.get (i := i) (d := d) t (by simpa using e)
    exact ⟨v, by simpa using h1, h2⟩
theorem RepL.getV {vs : List V} {ds : List D} {i : Nat} {v : V} (r : RepL K H μ U vs ds) (e : vs[i]? = some v) : ∃ d, ds[i]? = some d ∧ RepV K H μ U v d := by
  have hi : i < vs.length := (List.getElem?_eq_some_iff.mp e).1
  have hd : i < ds.length := by rw [← r.length]; exact hi
  obtain ⟨v', h1, h2⟩ := r.get (List.getElem?_eq_getElem hd)
  rw [e] at h1
  cases h1
  exact ⟨_, List.getElem?_eq_getElem hd, h2⟩
theorem RepL.append : ∀ {vs ws : List V} {ds es : List D}, RepL K H μ U vs ds → RepL K H μ U ws es → RepL K H μ U (vs ++ ws) (ds ++ es)
  | _, _, _, _, .nil, s => s
  | _, _, _, _, .cons r t, s => .cons r (RepL.append t s)
theorem RepL.snoc {vs : List V} {ds : List D} {v : V} {d : D} (r : RepL K H μ U vs ds) (q : RepV K H μ U v d) : RepL K H μ U (vs ++ [v]) (ds ++ [d]) := r.append (.cons q .nil)
theorem RepL.take : ∀ {vs : List V} {ds : List D} (n : Nat), RepL K H μ U vs ds → RepL K H μ U (vs.take n) (ds.take n)
  | _, _, 0, _ => .nil
  | _, _, _ + 1, .nil => .nil
  | _, _, n + 1, .cons r t => .cons r (RepL.take n t)
theorem RepL.drop : ∀ {vs : List V} {ds : List D} (n : Nat), RepL K H μ U vs ds → RepL K H μ U (vs.drop n) (ds.drop n)
  | _, _, 0, r => r
  | _, _, _ + 1, .nil => .nil
  | _, _, n + 1, .cons r t => RepL.drop n t
theorem RepL.set {v : V} {d : D} (q : RepV K H μ U v d) : ∀ {vs : List V} {ds : List D} (i : Nat), RepL K H μ U vs ds → RepL K H μ U (vs.set i v) (ds.set i d)
  | _, _, _, .nil => .nil
  | _, _, 0, .cons _ t => .cons q t
  | _, _, i + 1, .cons r t => .cons r (RepL.set q i t)
theorem RepL.erase : ∀ {vs : List V} {ds : List D} (i : Nat), RepL K H μ U vs ds → RepL K H μ U (vs.eraseIdx i) (ds.eraseIdx i)
  | _, _, _, .nil => .nil
  | _, _, 0, .cons _ t => t
  | _, _, i + 1, .cons r t => .cons r (RepL.erase i t)
theorem RepL.rev : ∀ {vs : List V} {ds : List D}, RepL K H μ U vs ds → RepL K H μ U vs.reverse ds.reverse
  | _, _, .nil => .nil
  | _, _, .cons r t => by
    rw [List.reverse_cons, List.reverse_cons]
    exact (RepL.rev t).snoc r
theorem RepL.ints : ∀ {ns : List Int} {vs : List V}, RepL K H μ U vs (ns.map D.int) → vs = ns.map V.int
  | [], _, .nil => rfl
  | n :: ns, _, .cons r t => by
    cases r
    rw [RepL.ints t]
    rfl
theorem RepL.of_ints : ∀ (ns : List Int), RepL K H μ U (ns.map V.int) (ns.map D.int)
  | [] => .nil
  | n :: ns => .cons (.int n) (RepL.of_ints ns)
theorem RepL.strs : ∀ {ns : List Str} {vs : List V}, RepL K H μ U vs (ns.map D.str) → vs = ns.map V.str
  | [], _, .nil => rfl
  | n :: ns, _, .cons r t => by
    cases r
    rw [RepL.strs t]
    rfl
theorem RepL.bls : ∀ {ns : List Bool} {vs : List V}, RepL K H μ U vs (ns.map D.bl) → vs = ns.map V.bl
  | [], _, .nil => rfl
  | n :: ns, _, .cons r t => by
    cases r
    rw [RepL.bls t]
    rfl
end

/-- the changing object at a -/
def RepO (K : PySem.W.Frag) (H : Hp) (μ : Mu) (U : Hid) (a : Addr) : MO → Prop
  | .lst ds => ∃ vs, H a = some (.lst vs) ∧ RepL K H μ U vs ds
  | .ins C gs => ∃ dx fs, H a = some (.ins C dx fs) ∧ fs.map (·.1) = gs.map (·.1) ∧ RepL K H μ U (fs.map (·.2)) (gs.map (·.2))
  | .dK gs => ∃ fs, H a = some (.dK fs) ∧ fs.map (·.1) = gs.map (·.1) ∧ RepL K H μ U (fs.map (·.2)) (gs.map (·.2))
  | .dT gs => ∃ fs, H a = some (.dT fs) ∧ fs.map (·.1) = gs.map (·.1) ∧ RepL K H μ U (fs.map (·.2)) (gs.map (·.2))
def ntup (o : HO) : Prop := ∀ xs, o ≠ .tup xs
/-- the heap says of the changing objects what the map says -/
structure ConcM (K : PySem.W.Frag) (H : Hp) (μ : Mu) (U : Hid) : Prop where
  ob : ∀ a o, μ a = some o → ¬ U a ∧ RepO K H μ U a o
  fr : ∀ b, U b → ∃ o, H b = some o ∧ ntup o
/-- the slots' values -/
abbrev De := List (Option D)
structure ConcE (K : PySem.W.Frag) (H : Hp) (μ : Mu) (U : Hid) (σ : L2.St) (δ : De) : Prop where
  len : σ.length = δ.length
  at_ : ∀ (i : Nat) (d : D), δ[i]? = some (some d) → ∃ v, σ[i]? = some (some v) ∧ RepV K H μ U v d

section
variable {K : PySem.W.Frag} {H H' : Hp} {μ μ' : Mu} {U U' : Hid} {a p : Addr} {o : HO} {σ : L2.St} {δ : De}
theorem RepO.there {u : MO} (h : RepO K H μ U a u) : ∃ o, H a = some o := by
  cases u with
  | lst ds => obtain ⟨_, e, _⟩ := h; exact ⟨_, e⟩
  | ins C gs => obtain ⟨_, _, e, _⟩ := h; exact ⟨_, e⟩
  | dK gs => obtain ⟨_, e, _⟩ := h; exact ⟨_, e⟩
  | dT gs => obtain ⟨_, e, _⟩ := h; exact ⟨_, e⟩
theorem ConcM.no (c : ConcM K H μ U) (h : H p = none) : μ p = none := by
  cases e : μ p with
  | none => rfl
  | some u =>
    obtain ⟨o, q⟩ := (c.ob p u e).2.there
    rw [h] at q
    cases q
theorem ConcM.nu (c : ConcM K H μ U) (h : H p = none) : ¬ U p := fun z => by
  obtain ⟨o, q, _⟩ := c.fr p z
  rw [h] at q
  cases q
theorem ConcM.ne (c : ConcM K H μ U) (h : H p = none) {b : Addr} {u : MO} (e : μ b = some u) : b ≠ p := by
  rintro rfl
  rw [c.no h] at e
  cases e
theorem RepO.keep {u : MO} (s : Keep H μ U H' μ' U') (e : H' a = H a) (h : RepO K H μ U a u) : RepO K H' μ' U' a u := by
  cases u with
  | lst ds => obtain ⟨vs, q, r⟩ := h; exact ⟨vs, e.trans q, r.keep s⟩
  | ins C gs => obtain ⟨dx, fs, q, k, r⟩ := h; exact ⟨dx, fs, e.trans q, k, r.keep s⟩
  | dK gs => obtain ⟨fs, q, k, r⟩ := h; exact ⟨fs, e.trans q, k, r.keep s⟩
  | dT gs => obtain ⟨fs, q, k, r⟩ := h; exact ⟨fs, e.trans q, k, r.keep s⟩
theorem there_ne {b : Addr} (h : ∃ u, H b = some u ∧ ntup u) (e : b ≠ a) : ∃ u, upd H a o b = some u ∧ ntup u := by
  rw [upd_ne e]; exact h
theorem there_upd {b : Addr} (h : ∃ u, H b = some u ∧ ntup u) (ho : ntup o) : ∃ u, upd H a o b = some u ∧ ntup u := by
  by_cases e : b = a
  · subst e; exact ⟨_, upd_same, ho⟩
  · rw [upd_ne e]; exact h
theorem ConcM.nep (c : ConcM K H μ U) (h : H p = none) {b : Addr} (z : U b) : b ≠ p := by
  rintro rfl
  exact c.nu h z
/-- a new object, no changing one -/
theorem Step.new (h : H p = none) : Step H μ (upd H p o) μ := fun b u e n => ⟨by rw [upd_ne (ne_of_none e h)]; exact e, n⟩
theorem ConcM.new (c : ConcM K H μ U) (h : H p = none) : ConcM K (upd H p o) μ U :=
  ⟨fun b u e => ⟨(c.ob b u e).1, (c.ob b u e).2.keep ((Step.new h).kp U) (upd_ne (c.ne h e))⟩, fun b z => there_ne (c.fr b z) (c.nep h z)⟩
/-- .. a changing one -/
theorem Step.newM {u : MO} (h : H p = none) : Step H μ (upd H p o) (mset μ p u) := fun b w e n => ⟨by rw [upd_ne (ne_of_none e h)]; exact e, by rw [mset_ne (ne_of_none e h)]; exact n⟩
theorem ConcM.newM {u : MO} (c : ConcM K H μ U) (h : H p = none) (r : RepO K (upd H p o) (mset μ p u) U p u) : ConcM K (upd H p o) (mset μ p u) U := ⟨fun b w e => by
  by_cases hb : b = p
  · subst hb
    rw [mset_same] at e
    cases e
    exact ⟨c.nu h, r⟩
  · rw [mset_ne hb] at e
    exact ⟨(c.ob b w e).1, (c.ob b w e).2.keep ((Step.newM h).kp U) (upd_ne hb)⟩, fun b z => there_ne (c.fr b z) (c.nep h z)⟩
/-- a changing object is written -/
theorem Step.write {u w : MO} (e : μ a = some w) : Step H μ (upd H a o) (mset μ a u) := fun b x q n => by
  have hb : b ≠ a := by
    rintro rfl
    rw [e] at n
    cases n
  exact ⟨by rw [upd_ne hb]; exact q, by rw [mset_ne hb]; exact n⟩
theorem ConcM.write {u w : MO} (c : ConcM K H μ U) (e : μ a = some w) (r : RepO K (upd H a o) (mset μ a u) U a u) : ConcM K (upd H a o) (mset μ a u) U := ⟨fun b x q => by
  by_cases hb : b = a
  · subst hb
    rw [mset_same] at q
    cases q
    exact ⟨(c.ob b w e).1, r⟩
  · rw [mset_ne hb] at q
    exact ⟨(c.ob b x q).1, (c.ob b x q).2.keep ((Step.write e).kp U) (upd_ne hb)⟩, fun b z => there_ne (c.fr b z) fun y => (c.ob a w e).1 (y ▸ z)⟩
/-- a changing object changes no more -/
theorem Step.del : Step H μ H (mdel μ a) := fun b o e n => ⟨e, by
  by_cases hb : b = a
  · subst hb; exact mdel_same
  · rw [mdel_ne hb]; exact n⟩
theorem ConcM.del (c : ConcM K H μ U) : ConcM K H (mdel μ a) U := ⟨fun b u e => by
  by_cases hb : b = a
  · subst hb
    rw [mdel_same] at e
    cases e
  · rw [mdel_ne hb] at e
    exact ⟨(c.ob b u e).1, (c.ob b u e).2.keep (Step.del.kp U) rfl⟩, c.fr⟩
theorem RepV.thaw (c : ConcM K H μ U) {u : MO} (e : μ a = some u) : RepV K H (mdel μ a) U (.ref a) u.tree := by
  obtain ⟨hu, h⟩ := c.ob a _ e
  cases u with
  | lst ds => obtain ⟨vs, q, r⟩ := h; exact .lst q mdel_same hu (r.step Step.del)
  | ins C gs => obtain ⟨dx, fs, q, k, r⟩ := h; exact .ins q mdel_same hu k (r.step Step.del)
  | dK gs => obtain ⟨fs, q, k, r⟩ := h; exact .dK q mdel_same hu k (r.step Step.del)
  | dT gs => obtain ⟨fs, q, k, r⟩ := h; exact .dT q mdel_same hu k (r.step Step.del)
/-- a hidden object is written -/
theorem keep_hidden (hu : U a) : Keep H μ U (upd H a o) μ U := fun b x e n u => ⟨by rw [upd_ne (fun z => u (by rw [z]; exact hu))]; exact e, n, u⟩
theorem ConcM.hidden (c : ConcM K H μ U) (hu : U a) (ho : ntup o := by intro _ z; cases z) : ConcM K (upd H a o) μ U :=
  ⟨fun b u e => ⟨(c.ob b u e).1, (c.ob b u e).2.keep (keep_hidden hu) (upd_ne fun z => (c.ob b u e).1 (by rw [z]; exact hu))⟩, fun b z => there_upd (c.fr b z) ho⟩
/-- one address more is hidden: a new one -/
def hide (U : Hid) (p : Addr) : Hid := fun b => U b ∨ b = p
theorem keep_hide (h : H p = none) : Keep H μ U (upd H p o) μ (hide U p) := fun b x e n u => ⟨by rw [upd_ne (ne_of_none e h)]; exact e, n, fun z => z.elim u (ne_of_none e h)⟩
theorem ConcM.hide (c : ConcM K H μ U) (h : H p = none) (ho : ntup o := by intro _ z; cases z) : ConcM K (upd H p o) μ (hide U p) :=
  ⟨fun b u e => ⟨fun z => z.elim (c.ob b u e).1 (c.ne h e), (c.ob b u e).2.keep (keep_hide h) (upd_ne (c.ne h e))⟩, fun b z => z.elim (fun z => there_upd (c.fr b z) ho) fun z => by rw [z]; exact ⟨_, upd_same, ho⟩⟩
theorem keep_unhide : Keep H μ (L3.hide U p) H μ U := keep_hid fun _ z => .inl z
theorem ConcM.unhide (c : ConcM K H μ (L3.hide U p)) : ConcM K H μ U := ⟨fun b u e => ⟨fun z => (c.ob b u e).1 (.inl z), (c.ob b u e).2.keep keep_unhide rfl⟩, fun b z => c.fr b (.inl z)⟩
theorem ConcE.keep (h : ConcE K H μ U σ δ) (s : Keep H μ U H' μ' U') : ConcE K H' μ' U' σ δ := ⟨h.len, fun i d e => let ⟨v, h1, h2⟩ := h.at_ i d e; ⟨v, h1, h2.keep s⟩⟩
theorem ConcE.step (h : ConcE K H μ U σ δ) (s : Step H μ H' μ') : ConcE K H' μ' U σ δ := h.keep (s.kp U)
theorem ConcE.set (h : ConcE K H μ U σ δ) {v : V} {d : D} (r : RepV K H μ U v d) (i : Nat) : ConcE K H μ U (σ.set i (some v)) (δ.set i (some d)) := by
  refine ⟨by rw [List.length_set, List.length_set]; exact h.len, fun j x e => ?_⟩
  by_cases hj : i = j
  · subst hj
    have hi : i < δ.length := by
      have := (List.getElem?_eq_some_iff.mp e).1
      rw [List.length_set] at this
      exact this
    rw [List.getElem?_set_self hi] at e
    cases e
    exact ⟨v, List.getElem?_set_self (by rw [h.len]; exact hi), r⟩
  · rw [List.getElem?_set_ne hj] at e
    obtain ⟨w, e1, e2⟩ := h.at_ j x e
    exact ⟨w, by rw [List.getElem?_set_ne hj]; exact e1, e2⟩
/-- a slot's value forgotten -/
theorem ConcE.unset (h : ConcE K H μ U σ δ) (i : Nat) : ConcE K H μ U (σ.set i none) (δ.set i none) := by
  refine ⟨by rw [List.length_set, List.length_set]; exact h.len, fun j x e => ?_⟩
  by_cases hj : i = j
  · subst hj
    have hi : i < δ.length := by
      have := (List.getElem?_eq_some_iff.mp e).1
      rw [List.length_set] at this
      exact this
    rw [List.getElem?_set_self hi] at e
    cases e
  · rw [List.getElem?_set_ne hj] at e
    obtain ⟨w, e1, e2⟩ := h.at_ j x e
    exact ⟨w, by rw [List.getElem?_set_ne hj]; exact e1, e2⟩
def wipeD (δ : De) : List Nat → De
  | [] => δ
  | v :: vs => (wipeD δ vs).set v none
theorem ConcE.wipe (h : ConcE K H μ U σ δ) : ∀ vs : List Nat, ConcE K H μ U (wipe σ vs) (wipeD δ vs)
  | [] => h
  | v :: vs => (ConcE.wipe h vs).unset v
end

/-! ### readings over data -/
abbrev WE := De → Mu → (D → Mu → Prop) → Prop
abbrev WT := De → Mu → (Bool → Mu → Prop) → Prop
abbrev WA := De → Mu → (List D → Mu → Prop) → Prop
structure DEnds where
  nx : De → Mu → Prop
  rt : D → Mu → Prop
  bk : De → Mu → Prop := fun _ _ => False
  ct : De → Mu → Prop := fun _ _ => False
abbrev WS := DEnds → De → Mu → Prop
/-- what is wanted behind: of every later heap that the map tells -/
def Pst (K : PySem.W.Frag) (H : Hp) (μ : Mu) (U : Hid) {α β : Type} (Rl : Hp → Mu → α → β → Prop) (P : β → Mu → Prop) (Q : α → Hp → Prop) : Prop :=
  ∀ a b H' μ', Step H μ H' μ' → ConcM K H' μ' U → Rl H' μ' a b → P b μ' → Q a H'
def liftE (K : PySem.W.Frag) (w : WE) : TE := fun σ H Q => ∃ U δ μ P, ConcM K H μ U ∧ ConcE K H μ U σ δ ∧ w δ μ P ∧ Pst K H μ U (fun H' μ' v d => RepV K H' μ' U v d) P Q
def liftT (K : PySem.W.Frag) (w : WT) : TT := fun σ H Q => ∃ U δ μ P, ConcM K H μ U ∧ ConcE K H μ U σ δ ∧ w δ μ P ∧ Pst K H μ U (fun _ _ (b : Bool) c => b = c) P Q
def liftA (K : PySem.W.Frag) (w : WA) : TA := fun σ H Q => ∃ U δ μ P, ConcM K H μ U ∧ ConcE K H μ U σ δ ∧ w δ μ P ∧ Pst K H μ U (fun H' μ' vs ds => RepL K H' μ' U vs ds) P Q
/-- the ends of a statement -/
structure EPst (K : PySem.W.Frag) (H : Hp) (μ : Mu) (U : Hid) (F : DEnds) (E : Ends) : Prop where
  nx : Pst K H μ U (fun H' μ' σ δ => ConcE K H' μ' U σ δ) F.nx E.nx
  rt : Pst K H μ U (fun H' μ' v d => RepV K H' μ' U v d) F.rt E.rt
  bk : Pst K H μ U (fun H' μ' σ δ => ConcE K H' μ' U σ δ) F.bk E.bk
  ct : Pst K H μ U (fun H' μ' σ δ => ConcE K H' μ' U σ δ) F.ct E.ct
def liftS (K : PySem.W.Frag) (w : WS) : TS := fun E σ H => ∃ U δ μ F, ConcM K H μ U ∧ ConcE K H μ U σ δ ∧ w F δ μ ∧ EPst K H μ U F E
theorem Pst.on {K : PySem.W.Frag} {H H1 : Hp} {μ μ1 : Mu} {U : Hid} {α β : Type} {Rl : Hp → Mu → α → β → Prop} {P : β → Mu → Prop} {Q : α → Hp → Prop} (p : Pst K H μ U Rl P Q) (s : Step H μ H1 μ1) : Pst K H1 μ1 U Rl P Q :=
  fun a b H' μ' s' c r q => p a b H' μ' (s.trans s') c r q
theorem EPst.on {K : PySem.W.Frag} {H H1 : Hp} {μ μ1 : Mu} {U : Hid} {F : DEnds} {E : Ends} (p : EPst K H μ U F E) (s : Step H μ H1 μ1) : EPst K H1 μ1 U F E := ⟨p.nx.on s, p.rt.on s, p.bk.on s, p.ct.on s⟩
abbrev DE (X : Cx) (e : Expr) (w : WE) : Prop := PE X e (liftE X.K w)
abbrev DT (X : Cx) (e : Expr) (w : WT) : Prop := PT X e (liftT X.K w)
abbrev DW (X : Cx) (e : Expr) (w : WT) : Prop := PW X e (liftT X.K w)
abbrev DA (X : Cx) (es : List Expr) (w : WA) : Prop := PA X es (liftA X.K w)
abbrev DS (X : Cx) (st : Stmt) (w : WS) : Prop := PS X st (liftS X.K w)
abbrev DSs (X : Cx) (st : List Stmt) (w : WS) : Prop := PSs X st (liftS X.K w)
section
variable {X : Cx} {e : Expr} {es : List Expr} {st : Stmt} {sts : List Stmt}
theorem weakE {t t' : TE} (h : PE X e t) (f : ∀ σ H Q, t' σ H Q → t σ H Q) : PE X e t' := ⟨fun pins s σ H Q I q => h.run pins s σ H Q I (f σ H Q q)⟩
theorem weakT {t t' : TT} (h : PT X e t) (f : ∀ σ H Q, t' σ H Q → t σ H Q) : PT X e t' := ⟨fun pins s σ H Q I q => h.run pins s σ H Q I (f σ H Q q)⟩
theorem weakW {t t' : TT} (h : PW X e t) (f : ∀ σ H Q, t' σ H Q → t σ H Q) : PW X e t' := ⟨fun wh pins s σ H Q I q => h.run wh pins s σ H Q I (f σ H Q q)⟩
theorem weakA {t t' : TA} (h : PA X es t) (f : ∀ σ H Q, t' σ H Q → t σ H Q) : PA X es t' := ⟨fun pos pins s σ H Q I q => h.run pos pins s σ H Q I (f σ H Q q)⟩
theorem weakS {t t' : TS} (h : PS X st t) (f : ∀ E σ H, t' E σ H → t E σ H) : PS X st t' := ⟨fun pins s σ H E I q => h.run pins s σ H E I (f E σ H q)⟩
theorem weakSs {t t' : TS} (h : PSs X sts t) (f : ∀ E σ H, t' E σ H → t E σ H) : PSs X sts t' := ⟨fun pins s σ H E I q => h.run pins s σ H E I (f E σ H q)⟩
end
end L3
/-! L3Rules -/
/-! L3Rules: the rules of expressions, statements, calls over data. -/
namespace L3
open PySem PySem.Spec PyProof.Rows L2

section
variable {X : Cx} {a b c : Expr} {es : List Expr} {pos : Pos}

/-! ### names, constants -/
def wVar (i : Nat) : WE := fun δ μ P => ∃ d, δ[i]? = some (some d) ∧ P d μ
def wC (d : D) : WE := fun _ μ P => P d μ
theorem de_var {i : Nat} {e : Expr} (h : PE X e (tVar i)) : DE X e (wVar i) := weakE h fun σ H Q ⟨U, δ, μ, P, cm, ce, ⟨d, e, p⟩, k⟩ =>
  let ⟨v, h1, h2⟩ := ce.at_ i d e
  ⟨v, h1, k v d H μ (Step.refl _ _) cm h2 p⟩
theorem dv (i : Nat) {x : Str} (hN : X.N[i]? = some x := by rfl) (hv : Vis X.env.scope x := by first | exact Or.inl rfl | exact Or.inr (Or.inl rfl) | exact Or.inr (Or.inr rfl)) (hd : (x == ("__debug__" : Str)) = false := by decide)
    (hcd : (x == ("__classdict__" : Str)) = false := by decide) : DE X (.Name x pos) (wVar i) := de_var (pv i hN hv hd hcd)
theorem de_c {e : Expr} {v : V} {d : D} (h : PE X e (tC v)) (r : ∀ H μ U, RepV X.K H μ U v d) : DE X e (wC d) := weakE h fun σ H Q ⟨U, δ, μ, P, cm, ce, p, k⟩ => k v d H μ (Step.refl _ _) cm (r H μ U) p
theorem de_int {i : Int} {j : Nat} : DE X (.Constant (.int i) j pos) (wC (.int i)) := de_c pe_int fun _ _ _ => .int i
theorem de_bl {i : Bool} {j : Nat} : DE X (.Constant (.bool i) j pos) (wC (.bl i)) := de_c pe_bl fun _ _ _ => .bl i
theorem de_non {j : Nat} : DE X (.Constant .none j pos) (wC .non) := de_c pe_non fun _ _ _ => .non
theorem de_str {x : Str} {j : Nat} : DE X (.Constant (.str x) j pos) (wC (.str x)) := de_c pe_str fun _ _ _ => .str x

/-! ### operations on two values -/
abbrev G2 := D → D → Mu → (D → Mu → Prop) → Prop
def wOp (g : G2) (wa wb : WE) : WE := fun δ μ P => wa δ μ fun d1 μ1 => wb δ μ1 fun d2 μ2 => g d1 d2 μ2 P
def OpD (K : PySem.W.Frag) (r : R2) (g : G2) : Prop := ∀ (U : Hid) (H : Hp) (μ : Mu) (x y : V) (d1 d2 : D) (P : D → Mu → Prop) (Q : VK), ConcM K H μ U → RepV K H μ U x d1 → RepV K H μ U y d2 → g d1 d2 μ P →
  Pst K H μ U (fun H' μ' v d => RepV K H' μ' U v d) P Q → r x y H Q
theorem op_two {r : R2} {g : G2} {wa wb : WE} (hg : OpD X.K r g) : ∀ σ H Q, liftE X.K (wOp g wa wb) σ H Q → tOp r (liftE X.K wa) (liftE X.K wb) σ H Q := fun σ H Q ⟨U, δ, μ, P, cm, ce, w, k⟩ =>
  ⟨U, δ, μ, _, cm, ce, w, fun x d1 H1 μ1 s1 c1 r1 w1 => ⟨U, δ, μ1, _, c1, ce.step s1, w1, fun y d2 H2 μ2 s2 c2 r2 w2 => hg U H2 μ2 x y d1 d2 P Q c2 (r1.step s2) r2 w2 (k.on (s1.trans s2))⟩⟩
theorem de_op {op : Operator} {r : R2} {g : G2} {wa wb : WE} (ho : OpR X (binaryOp op) r) (hg : OpD X.K r g) (ha : DE X a wa) (hb : DE X b wb) : DE X (.BinOp a op b pos) (wOp g wa wb) := weakE (pe_op ho ha hb) (op_two hg)
theorem de_cmp {op : CmpOp} {r : R2} {g : G2} {wa wb : WE} (ho : OpR X (compareOp op) r) (hg : OpD X.K r g) (ha : DE X a wa) (hb : DE X b wb) (hm : behindInMarks op b = false) : DE X (.Compare a [op] [b] pos) (wOp g wa wb) := weakE (pe_cmpR ho ha hb hm) (op_two hg)
/-- a value as a test -/
def wTest (w : WE) : WT := fun δ μ P => w δ μ fun d μ1 => ∃ k, d = .bl k ∧ P k μ1
theorem lift_test {w : WE} : ∀ σ H Q, liftT X.K (wTest w) σ H Q → tTest (liftE X.K w) σ H Q := fun σ H Q ⟨U, δ, μ, P, cm, ce, w, k⟩ =>
  ⟨U, δ, μ, _, cm, ce, w, fun v d H1 μ1 s1 c1 r1 ⟨b, e, p⟩ => by
    subst e
    cases r1
    exact ⟨b, rfl, k b b H1 μ1 s1 c1 rfl p⟩⟩
theorem dt_cmp {op : CmpOp} {r : R2} {g : G2} {wa wb : WE} (ho : OpR X (compareOp op) r) (hg : OpD X.K r g) (ha : DE X a wa) (hb : DE X b wb) (hm : behindInMarks op b = false) : DT X (.Compare a [op] [b] pos) (wTest (wOp g wa wb)) :=
  weakT (pt_cmpR ho ha hb hm) fun σ H Q h => by
    have := lift_test (X := X) σ H Q h
    exact op_two hg _ _ _ this
theorem dt_val {e : Expr} {w : WE} (h : DE X e w) (he : ∀ whole, isTrue e X.env whole = (do let v ← whole; standAt e.pos; holding [v] (truthy v)) := by intro _; rfl) : DT X e (wTest w) :=
  weakT (pt_val h he) fun σ H Q q => lift_test (X := X) σ H Q q
/-- ints -/
def gI (f : Int → Int → D) : G2 := fun d1 d2 μ P => ∃ i j, d1 = .int i ∧ d2 = .int j ∧ P (f i j) μ
def gIC (C : Int → Int → Prop) (f : Int → Int → D) : G2 := fun d1 d2 μ P => ∃ i j, d1 = .int i ∧ d2 = .int j ∧ C i j ∧ P (f i j) μ
theorem od_I0 {K : PySem.W.Frag} {f : Int → Int → V} {g : Int → Int → D} (h : ∀ i j H μ U, RepV K H μ U (f i j) (g i j)) : OpD K (rI0 f) (gI g) := by
  intro U H μ x y d1 d2 P Q c r1 r2 ⟨i, j, e1, e2, p⟩ k
  subst e1 e2
  cases r1
  cases r2
  exact ⟨i, j, rfl, rfl, k _ _ H μ (Step.refl _ _) c (h i j H μ U) p⟩
theorem od_I {K : PySem.W.Frag} {C C' : Int → Int → Prop} {f : Int → Int → V} {g : Int → Int → D} (hC : ∀ i j, C i j → C' i j) (h : ∀ i j H μ U, RepV K H μ U (f i j) (g i j)) : OpD K (rI C' f) (gIC C g) := by
  intro U H μ x y d1 d2 P Q c r1 r2 ⟨i, j, e1, e2, hc, p⟩ k
  subst e1 e2
  cases r1
  cases r2
  exact ⟨i, j, rfl, rfl, hC i j hc, k _ _ H μ (Step.refl _ _) c (h i j H μ U) p⟩
abbrev gAdd : G2 := gI fun i j => .int (i + j)
abbrev gSub : G2 := gI fun i j => .int (i - j)
abbrev gMul : G2 := gIC CMul fun i j => .int (i * j)
abbrev gMod : G2 := gIC (fun _ j => 0 < j) fun i j => .int (i % j)
abbrev gDiv : G2 := gIC CDiv fun i j => .int (i / j)
abbrev gDivN : G2 := gIC CDivN fun i j => .int (i.fdiv j)
abbrev gLt : G2 := gI fun i j => .bl (decide (i < j))
abbrev gLe : G2 := gI fun i j => .bl (decide (i ≤ j))
abbrev gGt : G2 := gI fun i j => .bl (decide (j < i))
abbrev gGe : G2 := gI fun i j => .bl (decide (j ≤ i))
theorem od_add {K : PySem.W.Frag} : OpD K (rI0 fun i j => .int (i + j)) gAdd := od_I0 fun i j _ _ _ => .int _
theorem od_sub {K : PySem.W.Frag} : OpD K (rI0 fun i j => .int (i - j)) gSub := od_I0 fun i j _ _ _ => .int _
theorem od_mul {K : PySem.W.Frag} : OpD K (rI CMul fun i j => .int (i * j)) gMul := od_I (fun _ _ h => h) fun i j _ _ _ => .int _
theorem od_mod {K : PySem.W.Frag} : OpD K (rI (fun _ j => 0 < j) fun i j => .int (i % j)) gMod := od_I (fun _ _ h => h) fun i j _ _ _ => .int _
theorem od_div {K : PySem.W.Frag} : OpD K (rI CDiv fun i j => .int (i / j)) gDiv := od_I (fun _ _ h => h) fun i j _ _ _ => .int _
theorem od_divN {K : PySem.W.Frag} : OpD K (rI CDivN fun i j => .int (i.fdiv j)) gDivN := od_I (fun _ _ h => h) fun i j _ _ _ => .int _
theorem od_lt {K : PySem.W.Frag} : OpD K (rI0 fun i j => .bl (decide (i < j))) gLt := od_I0 fun i j _ _ _ => .bl _
theorem od_le {K : PySem.W.Frag} : OpD K (rI0 fun i j => .bl (decide (i ≤ j))) gLe := od_I0 fun i j _ _ _ => .bl _
theorem od_gt {K : PySem.W.Frag} : OpD K (rI0 fun i j => .bl (decide (j < i))) gGt := od_I0 fun i j _ _ _ => .bl _
theorem od_ge {K : PySem.W.Frag} : OpD K (rI0 fun i j => .bl (decide (j ≤ i))) gGe := od_I0 fun i j _ _ _ => .bl _
/-- == of numbers, truth values, texts, None -/
def eqS : D → D → Option Bool
  | .int i, .int j => some (decide (i = j))
  | .bl i, .bl j => some (decide (i = j))
  | .str i, .str j => some (decide (i = j))
  | .non, .non => some true
  | .non, .int _ => some false
  | .int _, .non => some false
  | .non, .str _ => some false
  | .str _, .non => some false
  | .non, .bl _ => some false
  | .bl _, .non => some false
  | _, _ => none
def gEq : G2 := fun d1 d2 μ P => ∃ k, eqS d1 d2 = some k ∧ P (.bl k) μ
def gNe : G2 := fun d1 d2 μ P => ∃ k, eqS d1 d2 = some k ∧ P (.bl (!k)) μ
theorem eqS_scal {K : PySem.W.Frag} {H : Hp} {μ : Mu} {U : Hid} {x y : V} {d1 d2 : D} {k : Bool} (r1 : RepV K H μ U x d1) (r2 : RepV K H μ U y d2) (e : eqS d1 d2 = some k) : scal x y = true ∧ decide (x = y) = k := by
  cases d1 <;> cases d2 <;> first
    | (simp only [eqS] at e; done)
    | (simp only [eqS, Option.some.injEq] at e; subst e; cases r1; cases r2; exact ⟨rfl, by simp⟩)
    | (cases e)
theorem od_eq {K : PySem.W.Frag} : OpD K rEq gEq := fun U H μ x y d1 d2 P Q c r1 r2 ⟨k', e, p⟩ k => by
  obtain ⟨h1, h2⟩ := eqS_scal r1 r2 e
  exact ⟨h1, by rw [h2]; exact k _ _ H μ (Step.refl _ _) c (.bl k') p⟩
theorem od_ne {K : PySem.W.Frag} : OpD K rNe gNe := fun U H μ x y d1 d2 P Q c r1 r2 ⟨k', e, p⟩ k => by
  obtain ⟨h1, h2⟩ := eqS_scal r1 r2 e
  exact ⟨h1, by rw [h2]; exact k _ _ H μ (Step.refl _ _) c (.bl (!k')) p⟩

/-! ### one value -/
abbrev G1 := D → Mu → (D → Mu → Prop) → Prop
def wUn (g : G1) (wa : WE) : WE := fun δ μ P => wa δ μ fun d1 μ1 => g d1 μ1 P
def UnD (K : PySem.W.Frag) (r : V → Hp → VK → Prop) (g : G1) : Prop := ∀ (U : Hid) (H : Hp) (μ : Mu) (x : V) (d1 : D) (P : D → Mu → Prop) (Q : VK), ConcM K H μ U → RepV K H μ U x d1 → g d1 μ P →
  Pst K H μ U (fun H' μ' v d => RepV K H' μ' U v d) P Q → r x H Q
theorem op_one {r : V → Hp → VK → Prop} {g : G1} {wa : WE} (hg : UnD X.K r g) : ∀ σ H Q, liftE X.K (wUn g wa) σ H Q → tUn r (liftE X.K wa) σ H Q := fun σ H Q ⟨U, δ, μ, P, cm, ce, w, k⟩ =>
  ⟨U, δ, μ, _, cm, ce, w, fun x d1 H1 μ1 s1 c1 r1 w1 => hg U H1 μ1 x d1 P Q c1 r1 w1 (k.on s1)⟩
theorem de_un {op : UnaryOp} {r : V → Hp → VK → Prop} {g : G1} {wa : WE} (ho : UnR X (unaryOp op) r) (hg : UnD X.K r g) (ha : DE X a wa) : DE X (.UnaryOp op a pos) (wUn g wa) := weakE (pe_un ho ha) (op_one hg)
def gNeg : G1 := fun d μ P => ∃ i, d = .int i ∧ P (.int (-i)) μ
theorem ud_neg {K : PySem.W.Frag} : UnD K (rU fun i => .int (-i)) gNeg := fun U H μ x d1 P Q c r1 ⟨i, e, p⟩ k => by
  subst e
  cases r1
  exact ⟨i, rfl, k _ _ H μ (Step.refl _ _) c (.int _) p⟩

/-! ### truth -/
def seqL (μ : Mu) : D → Option (List D)
  | .lst ds => some ds
  | .own a => match μ a with
    | some (.lst ds) => some ds
    | _ => none
  | _ => none
def seqT : D → Option (List D)
  | .tup ds => some ds
  | _ => none
theorem seqL_rd {K : PySem.W.Frag} {H : Hp} {μ : Mu} {U : Hid} {x : V} {d : D} {ds : List D} (c : ConcM K H μ U) (r : RepV K H μ U x d) (e : seqL μ d = some ds) : ∃ a vs, x = .ref a ∧ Rd H a (.lst vs) ∧ RepL K H μ U vs ds := by
  cases d with
  | lst zs =>
    cases (Option.some.inj e)
    cases r with
    | lst h n u r => exact ⟨_, _, rfl, .inl h, r⟩
  | own a =>
    cases r
    cases q : μ a with
    | none =>
      simp only [seqL, q] at e
      cases e
    | some u =>
      simp only [seqL, q] at e
      cases u with
      | lst zs =>
        cases (Option.some.inj e)
        obtain ⟨_, vs, h, r⟩ := c.ob a _ q
        exact ⟨a, vs, rfl, .inl h, r⟩
      | _ => cases e
  | _ => cases e
theorem seqT_rd {K : PySem.W.Frag} {H : Hp} {μ : Mu} {U : Hid} {x : V} {d : D} {ds : List D} (r : RepV K H μ U x d) (e : seqT d = some ds) : ∃ a vs, x = .ref a ∧ Rd H a (.tup vs) ∧ μ a = none ∧ ¬ U a ∧ RepL K H μ U vs ds := by
  cases d with
  | tup zs =>
    cases (Option.some.inj e)
    cases r with
    | tup h n u r => exact ⟨_, _, rfl, .inl h, n, u, r⟩
  | _ => cases e
/-- a dict with number and text keys, with tuple keys -/
def dicK (μ : Mu) : D → Option (List (Key × D))
  | .dK g => some g
  | .own a => match μ a with
    | some (.dK g) => some g
    | _ => none
  | _ => none
def dicT (μ : Mu) : D → Option (List (List Key × D))
  | .dT g => some g
  | .own a => match μ a with
    | some (.dT g) => some g
    | _ => none
  | _ => none
theorem dicK_rd {K : PySem.W.Frag} {H : Hp} {μ : Mu} {U : Hid} {x : V} {d : D} {g : List (Key × D)} (c : ConcM K H μ U) (r : RepV K H μ U x d) (e : dicK μ d = some g) :
    ∃ a fs, x = .ref a ∧ H a = some (.dK fs) ∧ fs.map (·.1) = g.map (·.1) ∧ RepL K H μ U (fs.map (·.2)) (g.map (·.2)) := by
  cases d with
  | dK zs =>
    cases (Option.some.inj e)
    cases r with
    | dK h n u e r => exact ⟨_, _, rfl, h, e, r⟩
  | own a =>
    cases r
    cases q : μ a with
    | none =>
      simp only [dicK, q] at e
      cases e
    | some u =>
      simp only [dicK, q] at e
      cases u with
      | dK zs =>
        cases (Option.some.inj e)
        obtain ⟨_, fs, h, e, r⟩ := c.ob a _ q
        exact ⟨a, fs, rfl, h, e, r⟩
      | _ => cases e
  | _ => cases e
theorem dicT_rd {K : PySem.W.Frag} {H : Hp} {μ : Mu} {U : Hid} {x : V} {d : D} {g : List (List Key × D)} (c : ConcM K H μ U) (r : RepV K H μ U x d) (e : dicT μ d = some g) :
    ∃ a fs, x = .ref a ∧ H a = some (.dT fs) ∧ fs.map (·.1) = g.map (·.1) ∧ RepL K H μ U (fs.map (·.2)) (g.map (·.2)) := by
  cases d with
  | dT zs =>
    cases (Option.some.inj e)
    cases r with
    | dT h n u e r => exact ⟨_, _, rfl, h, e, r⟩
  | own a =>
    cases r
    cases q : μ a with
    | none =>
      simp only [dicT, q] at e
      cases e
    | some u =>
      simp only [dicT, q] at e
      cases u with
      | dT zs =>
        cases (Option.some.inj e)
        obtain ⟨_, fs, h, e, r⟩ := c.ob a _ q
        exact ⟨a, fs, rfl, h, e, r⟩
      | _ => cases e
  | _ => cases e
/-- small: below every line -/
abbrev lim : Nat := 100000
theorem lim_le {n : Nat} (h : n ≤ lim) : n ≤ sizeLine := Nat.le_trans h (by decide)
theorem lim_lt {n : Nat} (h : n ≤ lim) : n < sizeLine := Nat.lt_of_le_of_lt h (by decide)
inductive TruD (μ : Mu) : D → Bool → Prop
  | non : TruD μ .non false
  | bl (b : Bool) : TruD μ (.bl b) b
  | int (i : Int) : TruD μ (.int i) (i != 0)
  | str (s : Str) (h : s.length ≤ lim) : TruD μ (.str s) ((s.length : Int) != 0)
  | lst {d : D} {ds : List D} (h : seqL μ d = some ds) : TruD μ d (!ds.isEmpty)
  | tup {d : D} {ds : List D} (h : seqT d = some ds) : TruD μ d (!ds.isEmpty)
theorem RepL.isEmpty {K : PySem.W.Frag} {H : Hp} {μ : Mu} {U : Hid} {vs : List V} {ds : List D} (r : RepL K H μ U vs ds) : vs.isEmpty = ds.isEmpty := by
  cases r <;> rfl
theorem truD_V {K : PySem.W.Frag} {H : Hp} {μ : Mu} {U : Hid} {x : V} {d : D} {k : Bool} (c : ConcM K H μ U) (r : RepV K H μ U x d) (t : TruD μ d k) : TruV K x H k := by
  cases t with
  | non => cases r; exact rfl
  | bl => cases r; exact rfl
  | int => cases r; exact rfl
  | str s h => cases r; exact ⟨lim_le h, rfl⟩
  | lst h =>
    obtain ⟨a, vs, rfl, h1, r1⟩ := seqL_rd c r h
    exact .inl ⟨vs, .inl h1, by rw [r1.isEmpty]⟩
  | tup h =>
    obtain ⟨a, vs, rfl, h1, _, _, r1⟩ := seqT_rd r h
    exact .inr (.inl ⟨vs, .inl h1, by rw [r1.isEmpty]⟩)
def wTru (w : WE) : WT := fun δ μ P => w δ μ fun d μ1 => ∃ k, TruD μ1 d k ∧ P k μ1
theorem dt_tru {w : WE} (ha : DE X a w) (he : ∀ whole, isTrue a X.env whole = (do let v ← whole; standAt a.pos; holding [v] (truthy v)) := by intro _; rfl) : DT X a (wTru w) :=
  weakT (pt_truth ha he) fun σ H Q ⟨U, δ, μ, P, cm, ce, w, k⟩ => ⟨U, δ, μ, _, cm, ce, w, fun v d H1 μ1 s1 c1 r1 ⟨b, t, p⟩ => ⟨b, truD_V c1 r1 t, k b b H1 μ1 s1 c1 rfl p⟩⟩

/-! ### and, or, not, if -/
def wAnd (t u : WT) : WT := fun δ μ P => t δ μ fun c μ1 => if c = true then u δ μ1 P else P false μ1
def wOr (t u : WT) : WT := fun δ μ P => t δ μ fun c μ1 => if c = true then P true μ1 else u δ μ1 P
def wNot (t : WT) : WT := fun δ μ P => t δ μ fun c μ1 => P (!c) μ1
theorem dw_and1 {t : WT} (ha : DT X a t) : DW X (.BoolOp .And [a] pos) t := pw_and1 ha
theorem dw_or1 {t : WT} (ha : DT X a t) : DW X (.BoolOp .Or [a] pos) t := pw_or1 ha
theorem lt_if {t : WT} {f g : WT} {tf tg : TT} (hf : ∀ σ H Q, liftT X.K f σ H Q → tf σ H Q) (hg : ∀ σ H Q, liftT X.K g σ H Q → tg σ H Q) : ∀ σ H Q, liftT X.K (fun δ μ P => t δ μ fun c μ1 => if c = true then f δ μ1 P else g δ μ1 P) σ H Q →
    liftT X.K t σ H fun c H1 => if c = true then tf σ H1 Q else tg σ H1 Q := fun σ H Q ⟨U, δ, μ, P, cm, ce, w, k⟩ => ⟨U, δ, μ, _, cm, ce, w, fun b c' H1 μ1 s1 c1 e p => by
    subst e
    cases b with
    | true =>
      rw [if_pos rfl] at p ⊢
      exact hf _ _ _ ⟨U, δ, μ1, P, c1, ce.step s1, p, k.on s1⟩
    | false =>
      rw [if_neg Bool.false_ne_true] at p ⊢
      exact hg _ _ _ ⟨U, δ, μ1, P, c1, ce.step s1, p, k.on s1⟩⟩
theorem lift_yes {b : Bool} : ∀ σ H Q, liftT X.K (fun _ μ P => P b μ) σ H Q → Q b H := fun σ H Q ⟨U, δ, μ, P, cm, ce, w, k⟩ => k b b H μ (Step.refl _ _) cm rfl w
theorem dw_and {rest : List Expr} {t u : WT} (ha : DT X a t) (hb : DW X (.BoolOp .And (b :: rest) pos) u) : DW X (.BoolOp .And (a :: b :: rest) pos) (wAnd t u) :=
  weakW (pw_and ha hb) (lt_if (X := X) (f := u) (g := fun _ μ P => P false μ) (fun _ _ _ h => h) lift_yes)
theorem dw_or {rest : List Expr} {t u : WT} (ha : DT X a t) (hb : DW X (.BoolOp .Or (b :: rest) pos) u) : DW X (.BoolOp .Or (a :: b :: rest) pos) (wOr t u) :=
  weakW (pw_or ha hb) (lt_if (X := X) (f := fun _ μ P => P true μ) (g := u) lift_yes (fun _ _ _ h => h))
theorem dt_not {t : WT} (ha : DT X a t) : DT X (.UnaryOp .Not a pos) (wNot t) :=
  weakT (pt_not ha) fun σ H Q ⟨U, δ, μ, P, cm, ce, w, k⟩ => ⟨U, δ, μ, _, cm, ce, w, fun b c H1 μ1 s1 c1 e p => by
    subst e
    exact k _ _ H1 μ1 s1 c1 rfl p⟩
/-- .. as values: bools -/
def wAndV (ta tb : WE) : WE := fun δ μ P => ta δ μ fun d μ1 => ∃ c, d = .bl c ∧ if c = true then tb δ μ1 P else P (.bl false) μ1
def wOrV (ta tb : WE) : WE := fun δ μ P => ta δ μ fun d μ1 => ∃ c, d = .bl c ∧ if c = true then P (.bl true) μ1 else tb δ μ1 P
def wNotV (ta : WE) : WE := fun δ μ P => ta δ μ fun d μ1 => ∃ c, d = .bl c ∧ P (.bl (!c)) μ1
theorem de_one {op : BoolOp} {t : WE} (h : DE X a t) : DE X (.BoolOp op [a] pos) t := pe_one h
theorem de_and {rest : List Expr} {t u : WE} (ha : DE X a t) (hb : DE X (.BoolOp .And (b :: rest) pos) u) : DE X (.BoolOp .And (a :: b :: rest) pos) (wAndV t u) :=
  weakE (pe_and ha hb) fun σ H Q ⟨U, δ, μ, P, cm, ce, w, k⟩ => ⟨U, δ, μ, _, cm, ce, w, fun v d H1 μ1 s1 c1 r1 ⟨c, e, p⟩ => by
    subst e
    cases r1
    refine ⟨c, rfl, ?_⟩
    cases c with
    | true =>
      rw [if_pos rfl] at p ⊢
      exact ⟨U, δ, μ1, P, c1, ce.step s1, p, k.on s1⟩
    | false =>
      rw [if_neg Bool.false_ne_true] at p ⊢
      exact k _ _ H1 μ1 s1 c1 (.bl false) p⟩
theorem de_or {rest : List Expr} {t u : WE} (ha : DE X a t) (hb : DE X (.BoolOp .Or (b :: rest) pos) u) : DE X (.BoolOp .Or (a :: b :: rest) pos) (wOrV t u) :=
  weakE (pe_or ha hb) fun σ H Q ⟨U, δ, μ, P, cm, ce, w, k⟩ => ⟨U, δ, μ, _, cm, ce, w, fun v d H1 μ1 s1 c1 r1 ⟨c, e, p⟩ => by
    subst e
    cases r1
    refine ⟨c, rfl, ?_⟩
    cases c with
    | false =>
      rw [if_neg Bool.false_ne_true] at p ⊢
      exact ⟨U, δ, μ1, P, c1, ce.step s1, p, k.on s1⟩
    | true =>
      rw [if_pos rfl] at p ⊢
      exact k _ _ H1 μ1 s1 c1 (.bl true) p⟩
theorem de_not {t : WE} (ha : DE X a t) : DE X (.UnaryOp .Not a pos) (wNotV t) :=
  weakE (pe_not ha) fun σ H Q ⟨U, δ, μ, P, cm, ce, w, k⟩ => ⟨U, δ, μ, _, cm, ce, w, fun v d H1 μ1 s1 c1 r1 ⟨c, e, p⟩ => by
    subst e
    cases r1
    exact ⟨c, rfl, k _ _ H1 μ1 s1 c1 (.bl _) p⟩⟩
def wIf (t : WT) (ta tb : WE) : WE := fun δ μ P => t δ μ fun c μ1 => if c = true then ta δ μ1 P else tb δ μ1 P
theorem de_if {t : WT} {u v : WE} (hc : DT X c t) (ha : DE X a u) (hb : DE X b v) : DE X (.IfExp c a b pos) (wIf t u v) :=
  weakE (pe_ifExp hc ha hb) fun σ H Q ⟨U, δ, μ, P, cm, ce, w, k⟩ => ⟨U, δ, μ, _, cm, ce, w, fun b c' H1 μ1 s1 c1 e p => by
    subst e
    cases b with
    | true =>
      rw [if_pos rfl] at p ⊢
      exact ⟨U, δ, μ1, P, c1, ce.step s1, p, k.on s1⟩
    | false =>
      rw [if_neg Bool.false_ne_true] at p ⊢
      exact ⟨U, δ, μ1, P, c1, ce.step s1, p, k.on s1⟩⟩

/-! ### lists of expressions, displays -/
def wNil : WA := fun _ μ P => P [] μ
def wCons (w : WE) (r : WA) : WA := fun δ μ P => w δ μ fun d μ1 => r δ μ1 fun ds μ2 => P (d :: ds) μ2
theorem da_nil : DA X [] wNil := weakA pa_nil fun σ H Q ⟨U, δ, μ, P, cm, ce, w, k⟩ => k [] [] H μ (Step.refl _ _) cm .nil w
theorem da_cons {w : WE} {r : WA} (ha : DE X a w) (hr : DA X es r) (hs : starEach (a :: es) X.env = (false, eval a X.env) :: starEach es X.env := by rfl) : DA X (a :: es) (wCons w r) :=
  weakA (pa_cons ha hr hs) fun σ H Q ⟨U, δ, μ, P, cm, ce, w, k⟩ => ⟨U, δ, μ, _, cm, ce, w, fun v d H1 μ1 s1 c1 r1 w1 => ⟨U, δ, μ1, _, c1, ce.step s1, w1, fun vs ds H2 μ2 s2 c2 r2 p => k (v :: vs) (d :: ds) H2 μ2 (s1.trans s2) c2 (.cons (r1.step s2) r2) p⟩⟩
/-- a new tree -/
theorem new_tree {K : PySem.W.Frag} {H : Hp} {μ : Mu} {U : Hid} {P : D → Mu → Prop} {Q : VK} (c : ConcM K H μ U) (k : Pst K H μ U (fun H' μ' v d => RepV K H' μ' U v d) P Q) {vs : List V} {ds : List D} (r : RepL K H μ U vs ds) {p : Addr} (hp : H p = none) :
    (P (.lst ds) μ → Q (.ref p) (upd H p (.lst vs))) ∧ (P (.tup ds) μ → Q (.ref p) (upd H p (.tup vs))) :=
  ⟨fun q => k _ _ _ μ (Step.new hp) (c.new hp) (.lst upd_same (c.no hp) (c.nu hp) (r.step (Step.new hp))) q, fun q => k _ _ _ μ (Step.new hp) (c.new hp) (.tup upd_same (c.no hp) (c.nu hp) (r.step (Step.new hp))) q⟩
theorem new_mut {K : PySem.W.Frag} {H : Hp} {μ : Mu} {U : Hid} {P : D → Mu → Prop} {Q : VK} (c : ConcM K H μ U) (k : Pst K H μ U (fun H' μ' v d => RepV K H' μ' U v d) P Q) {vs : List V} {ds : List D} (r : RepL K H μ U vs ds) {p : Addr} (hp : H p = none)
    (q : P (.own p) (mset μ p (.lst ds))) : Q (.ref p) (upd H p (.lst vs)) :=
  k _ _ _ _ (Step.newM hp) (c.newM (u := .lst ds) hp ⟨vs, upd_same, r.step (Step.newM hp)⟩) (.own p) q
def wTup (r : WA) : WE := fun δ μ P => r δ μ fun ds μ1 => ds.length ≤ lim ∧ P (.tup ds) μ1
def wLst (r : WA) : WE := fun δ μ P => r δ μ fun ds μ1 => ds.length ≤ lim ∧ P (.lst ds) μ1
/-- a list that will change -/
def wLstM (r : WA) : WE := fun δ μ P => r δ μ fun ds μ1 => ds.length ≤ lim ∧ ∀ p, μ1 p = none → P (.own p) (mset μ1 p (.lst ds))
theorem de_tup {x1 : Nat} {r : WA} (h : DA X es r) : DE X (.Tuple es x1 pos) (wTup r) := weakE (pe_tup h) fun σ H Q ⟨U, δ, μ, P, cm, ce, w, k⟩ => ⟨U, δ, μ, _, cm, ce, w, fun vs ds H1 μ1 s1 c1 r1 ⟨z, p⟩ =>
  ⟨by rw [r1.length]; exact lim_le z, fun a ha => (new_tree c1 (k.on s1) r1 ha).2 p⟩⟩
theorem de_lst {r : WA} (h : DA X es r) : DE X (.List es pos) (wLst r) := weakE (pe_lst h) fun σ H Q ⟨U, δ, μ, P, cm, ce, w, k⟩ => ⟨U, δ, μ, _, cm, ce, w, fun vs ds H1 μ1 s1 c1 r1 ⟨z, p⟩ =>
  ⟨by rw [r1.length]; exact lim_le z, fun a ha => (new_tree c1 (k.on s1) r1 ha).1 p⟩⟩
theorem de_lstM {r : WA} (h : DA X es r) : DE X (.List es pos) (wLstM r) := weakE (pe_lst h) fun σ H Q ⟨U, δ, μ, P, cm, ce, w, k⟩ => ⟨U, δ, μ, _, cm, ce, w, fun vs ds H1 μ1 s1 c1 r1 ⟨z, p⟩ =>
  ⟨by rw [r1.length]; exact lim_le z, fun a ha => new_mut c1 (k.on s1) r1 ha (p a (c1.no ha))⟩⟩
end

/-! ### what changes no more: a tree from now on -/
section
variable {X : Cx} {e : Expr}
/-- the value, an own object, becomes a tree -/
def wFrz (w : WE) : WE := fun δ μ P => w δ μ fun d μ1 => ∃ a u, d = .own a ∧ μ1 a = some u ∧ P u.tree (mdel μ1 a)
theorem de_frz {w : WE} (h : DE X e w) : DE X e (wFrz w) := weakE h fun σ H Q ⟨U, δ, μ, P, cm, ce, w, k⟩ => ⟨U, δ, μ, _, cm, ce, w, fun v d H1 μ1 s1 c1 r1 ⟨a, u, e, q, p⟩ => by
  subst e
  cases r1
  exact k _ _ H1 _ (s1.trans Step.del) c1.del (RepV.thaw c1 q) p⟩
/-- slot i's object becomes a tree -/
def wThaw (i : Nat) (w : WS) : WS := fun F δ μ => ∃ a u, δ[i]? = some (some (.own a)) ∧ μ a = some u ∧ w F (δ.set i (some u.tree)) (mdel μ a)
end
/-- any way to see the value otherwise -/
def Melts (μ : Mu) (d : D) (μ' : Mu) (d' : D) : Prop := (∀ b, μ b = none → μ' b = none) ∧ ∀ (K : PySem.W.Frag) (H : Hp) (U : Hid) (v : V), ConcM K H μ U → RepV K H μ U v d → ConcM K H μ' U ∧ RepV K H μ' U v d'
def wMelt (w : WE) : WE := fun δ μ P => w δ μ fun d μ1 => ∃ μ2 d2, Melts μ1 d μ2 d2 ∧ P d2 μ2
theorem de_melt {X : Cx} {e : Expr} {w : WE} (h : DE X e w) : DE X e (wMelt w) := weakE h fun σ H Q ⟨U, δ, μ, P, cm, ce, w, k⟩ => ⟨U, δ, μ, _, cm, ce, w, fun v d H1 μ1 s1 c1 r1 ⟨μ2, d2, m, p⟩ => by
  obtain ⟨c2, r2⟩ := m.2 X.K H1 U v c1 r1
  exact k _ _ H1 μ2 (s1.trans fun b o e n => ⟨e, m.1 b n⟩) c2 r2 p⟩
end L3
/-! L3Stmt -/
/-! L3Stmt: statements, targets, loops, comprehensions over data. -/
namespace L3
open PySem PySem.Spec PyProof.Rows L2

section
variable {X : Cx} {st : Stmt} {rest : List Stmt} {e o : Expr} {pos : Pos}

def wNext : WS := fun F δ μ => F.nx δ μ
def wSeq (t u : WS) : WS := fun F δ μ => t { F with nx := u F } δ μ
theorem dss_nil : DSs X [] wNext := weakSs pss_nil fun E σ H ⟨U, δ, μ, F, c, e, w, k⟩ => k.nx σ δ H μ (Step.refl _ _) c e w
theorem dss_cons {t u : WS} (h1 : DS X st t) (h2 : DSs X rest u) : DSs X (st :: rest) (wSeq t u) :=
  weakSs (pss_cons h1 h2) fun E σ H ⟨U, δ, μ, F, c, e, w, k⟩ => ⟨U, δ, μ, { F with nx := u F }, c, e, w, ⟨fun σ' δ' H' μ' s c' e' q => ⟨U, δ', μ', F, c', e', q, k.on s⟩, k.rt, k.bk, k.ct⟩⟩
theorem dss_one {t : WS} (h1 : DS X st t) : DSs X [st] t := pss_one h1
/-- a changing object at slot i becomes a tree, ahead of a statement -/
theorem ds_thaw {i : Nat} {w : WS} (h : DS X st w) : DS X st (wThaw i w) := weakS h fun E σ H ⟨U, δ, μ, F, c, e, ⟨a, u, e1, e2, w⟩, k⟩ => by
  obtain ⟨v, h1, h2⟩ := e.at_ i _ e1
  cases h2
  have e' : ConcE X.K H (mdel μ a) U σ (δ.set i (some u.tree)) := by
    have q := (e.step (Step.del (a := a))).set (RepV.thaw c e2) i
    have z : σ.set i (some (.ref a)) = σ := by
      refine List.ext_getElem? fun j => ?_
      by_cases hj : i = j
      · subst hj
        rw [List.getElem?_set_self (List.getElem?_eq_some_iff.mp h1).1, h1]
      · rw [List.getElem?_set_ne hj]
    rw [z] at q
    exact q
  exact ⟨U, _, _, F, c.del, e', w, k.on Step.del⟩
def wPass : WS := wNext
theorem ds_pass : DS X (.Pass pos) wPass := weakS ps_pass fun E σ H ⟨U, δ, μ, F, c, e, w, k⟩ => k.nx σ δ H μ (Step.refl _ _) c e w
def wBrk : WS := fun F δ μ => F.bk δ μ
def wCont : WS := fun F δ μ => F.ct δ μ
theorem ds_break : DS X (.Break pos) wBrk := weakS ps_break fun E σ H ⟨U, δ, μ, F, c, e, w, k⟩ => k.bk σ δ H μ (Step.refl _ _) c e w
theorem ds_continue : DS X (.Continue pos) wCont := weakS ps_continue fun E σ H ⟨U, δ, μ, F, c, e, w, k⟩ => k.ct σ δ H μ (Step.refl _ _) c e w
def wNever : WS := fun _ _ _ => False
theorem ds_never : DS X st wNever := weakS ps_never fun E σ H ⟨U, δ, μ, F, c, e, w, k⟩ => w
theorem dss_never : DSs X rest wNever := weakSs pss_never fun E σ H ⟨U, δ, μ, F, c, e, w, k⟩ => w
def wDrop (w : WE) : WS := fun F δ μ => w δ μ fun _ μ1 => F.nx δ μ1
theorem ds_expr {w : WE} (he : DE X e w) (hs : swapsWith e none pos.line X.env = pure false := by rfl) : DS X (.Expr e pos) (wDrop w) :=
  weakS (ps_expr he hs) fun E σ H ⟨U, δ, μ, F, c, e, w, k⟩ => ⟨U, δ, μ, _, c, e, w, fun v d H1 μ1 s1 c1 r1 p => k.nx σ δ H1 μ1 s1 c1 (e.step s1) p⟩
def wRet (w : WE) : WS := fun F δ μ => w δ μ F.rt
theorem ds_ret {w : WE} (he : DE X e w) : DS X (.Return (some e) pos) (wRet w) := weakS (ps_ret he) fun E σ H ⟨U, δ, μ, F, c, e, w, k⟩ => ⟨U, δ, μ, _, c, e, w, k.rt⟩
def wRetN : WS := fun F _ μ => F.rt .non μ
theorem ds_retN : DS X (.Return none pos) wRetN := weakS ps_retN fun E σ H ⟨U, δ, μ, F, c, e, w, k⟩ => k.rt .non .non H μ (Step.refl _ _) c .non w
def wIfS (c : WT) (t u : WS) : WS := fun F δ μ => c δ μ fun b μ1 => if b = true then t F δ μ1 else u F δ μ1
theorem ds_if {c : Expr} {a b : List Stmt} {t : WT} {u v : WS} (hc : DT X c t) (ha : DSs X a u) (hb : DSs X b v) : DS X (.If c a b pos) (wIfS t u v) :=
  weakS (ps_if hc ha hb) fun E σ H ⟨U, δ, μ, F, cm, ce, w, k⟩ => ⟨U, δ, μ, _, cm, ce, w, fun b c' H1 μ1 s1 c1 e p => by
    subst e
    cases b with
    | true =>
      rw [if_pos rfl] at p ⊢
      exact ⟨U, δ, μ1, F, c1, ce.step s1, p, k.on s1⟩
    | false =>
      rw [if_neg Bool.false_ne_true] at p ⊢
      exact ⟨U, δ, μ1, F, c1, ce.step s1, p, k.on s1⟩⟩
def wAsg (w : WE) (i : Nat) : WS := fun F δ μ => w δ μ fun d μ1 => F.nx (δ.set i (some d)) μ1
theorem asg_ok {w : WE} {i : Nat} : ∀ E σ H, liftS X.K (wAsg w i) E σ H → tAsg (liftE X.K w) (gName i) E σ H := fun E σ H ⟨U, δ, μ, F, c, e, w, k⟩ =>
  ⟨U, δ, μ, _, c, e, w, fun v d H1 μ1 s1 c1 r1 p => k.nx (σ.set i (some v)) (δ.set i (some d)) H1 μ1 s1 c1 ((e.step s1).set r1 i) p⟩
theorem ds_set {i : Nat} {x : Str} {w : WE} {pos' : Pos} (hN : X.N.Nodup) (hi : X.N[i]? = some x) (hx : Loc X.env.scope x) (he : DE X e w) (hs : swapsWith e (some (.Name x pos')) pos.line X.env = pure false := by rfl) (hf : X.fn x = true ∨ X.env.scope.names.lookup x = some .local := by first | exact .inl rfl | exact .inr rfl | assumption) :
    DS X (.Assign [.Name x pos'] e pos) (wAsg w i) := weakS (ps_set hN hi hx he hs hf) asg_ok

/-! ### targets -/
abbrev WG := D → De → (De → Prop) → Prop
abbrev WGs := List D → De → (De → Prop) → Prop
def liftG (K : PySem.W.Frag) (g : WG) (ix : List Nat) : TG := fun v σ H Q => ∃ U d δ μ P, ConcM K H μ U ∧ ConcE K H μ U σ δ ∧ RepV K H μ U v d ∧ g d δ P ∧ ∀ σ' δ', ConcE K H μ U σ' δ' → P δ' → (∀ vs : List Nat, (∀ i ∈ ix, i ∈ vs) → wipe σ' vs = wipe σ vs) → Q σ' H
def liftGs (K : PySem.W.Frag) (g : WGs) (ix : List Nat) : TGs := fun vs σ H Q => ∃ U ds δ μ P, ConcM K H μ U ∧ ConcE K H μ U σ δ ∧ RepL K H μ U vs ds ∧ g ds δ P ∧ ∀ σ' δ', ConcE K H μ U σ' δ' → P δ' → (∀ vs : List Nat, (∀ i ∈ ix, i ∈ vs) → wipe σ' vs = wipe σ vs) → Q σ' H
structure DG (X : Cx) (t : Expr) (g : WG) (ix : List Nat) : Prop where
  run : PG X t (liftG X.K g ix)
structure DGs (X : Cx) (ts : List Expr) (g : WGs) (ix : List Nat) : Prop where
  run : PGs X ts (liftGs X.K g ix)
theorem wipe_set {σ : L2.St} {v : Option V} {i : Nat} : ∀ {vs : List Nat}, i ∈ vs → wipe (σ.set i v) vs = wipe σ vs
  | [], h => by cases h
  | j :: vs, h => by
    by_cases hi : i ∈ vs
    · show (wipe (σ.set i v) vs).set j none = (wipe σ vs).set j none
      rw [wipe_set hi]
    · have e : i = j := by
        rcases List.mem_cons.mp h with h | h
        · exact h
        · exact absurd h hi
      subst e
      show (wipe (σ.set i v) vs).set i none = (wipe σ vs).set i none
      have q : ∀ (vs : List Nat), i ∉ vs → wipe (σ.set i v) vs = (wipe σ vs).set i v := by
        intro vs
        induction vs with
        | nil => intro _; rfl
        | cons a r ih =>
          intro hn
          show (wipe (σ.set i v) r).set a none = ((wipe σ r).set a none).set i v
          rw [ih (fun z => hn (List.mem_cons_of_mem _ z)), List.set_comm _ _ (fun z => hn (by rw [z]; exact List.mem_cons_self))]
      rw [q vs hi, List.set_set]
def gN (i : Nat) : WG := fun d δ P => P (δ.set i (some d))
def gsNil : WGs := fun ds δ P => ds = [] ∧ P δ
def gsCons (g : WG) (r : WGs) : WGs := fun ds δ P => ∃ x xs, ds = x :: xs ∧ g x δ fun δ' => r xs δ' P
def gT (n : Nat) (g : WGs) : WG := fun d δ P => ∃ ds, seqT d = some ds ∧ ds.length = n ∧ g ds δ P
theorem dg_name {i : Nat} {x : Str} (hN : X.N.Nodup) (hi : X.N[i]? = some x) (hx : Loc X.env.scope x) (hf : X.fn x = true ∨ X.env.scope.names.lookup x = some .local := by first | exact .inl rfl | exact .inr rfl | assumption) : DG X (.Name x pos) (gN i) [i] :=
  ⟨⟨fun pins s σ H v u Q I r ⟨U, d, δ, μ, P, c, e, rv, p, k⟩ => (pg_name hN hi hx hf).run pins s σ H v u Q I r (k _ _ (e.set rv i) p fun vs h => wipe_set (h i List.mem_cons_self))⟩⟩
theorem dgs_nil : DGs X [] gsNil [] := ⟨⟨fun pins s σ H vs us Q I r ⟨U, ds, δ, μ, P, c, e, rv, ⟨hd, p⟩, k⟩ => by
  subst hd
  cases rv
  exact pgs_nil.run pins s σ H [] us Q I r ⟨rfl, k σ δ e p fun _ _ => rfl⟩⟩⟩
theorem dgs_cons {t : Expr} {ts : List Expr} {g : WG} {r : WGs} {ix jx : List Nat} (h1 : DG X t g ix) (h2 : DGs X ts r jx) (hs : (assignEach (t :: ts) X.env).map (·.2) = assign t X.env :: (assignEach ts X.env).map (·.2) := by rfl) :
    DGs X (t :: ts) (gsCons g r) (ix ++ jx) := ⟨⟨fun pins s σ H vs us Q I rr ⟨U, ds, δ, μ, P, c, e, rv, ⟨x, xs, hd, p⟩, k⟩ => by
  subst hd
  cases rv with
  | cons r1 r2 =>
    refine (pgs_cons h1.run h2.run hs).run pins s σ H _ us Q I rr ⟨_, _, rfl, U, x, δ, μ, _, c, e, r1, p, fun σ1 δ1 e1 p1 w1 => ⟨U, xs, δ1, μ, P, c, e1, r2, p1, fun σ2 δ2 e2 p2 w2 => k σ2 δ2 e2 p2 fun vs hv => ?_⟩⟩
    rw [w2 vs fun i hi => hv i (List.mem_append_right _ hi), w1 vs fun i hi => hv i (List.mem_append_left _ hi)]⟩⟩
theorem dg_tup {ts : List Expr} {k : Nat} {g : WGs} {n : Nat} {ix : List Nat} (hc : X.calm = true) (h : DGs X ts g ix) (hn : (assignEach ts X.env).length = n := by rfl) (hst : (assignEach ts X.env).findIdx? (·.1) = none := by rfl) : DG X (.Tuple ts k pos) (gT n g) ix :=
  ⟨⟨fun pins s σ H v u Q I r ⟨U, d, δ, μ, P, c, e, rv, ⟨ds, hd, hl, p⟩, k⟩ => by
    obtain ⟨a, vs, ev, ha, _, _, rl⟩ := seqT_rd rv hd
    exact (pg_tup hc h.run hn hst).run pins s σ H v u Q I r ⟨a, vs, ev, .inl ha, by rw [rl.length]; exact hl, U, ds, δ, μ, P, c, e, rl, p, k⟩⟩⟩
/-- target = value -/
def wAsgG (w : WE) (g : WG) : WS := fun F δ μ => w δ μ fun d μ1 => g d δ fun δ' => F.nx δ' μ1
theorem ds_asg {tg e : Expr} {w : WE} {g : WG} {ix : List Nat} (he : DE X e w) (hg : DG X tg g ix) (hs : swapsWithSole [tg] e pos.line X.env = pure false := by rfl) (hw : swappedStores [tg] e X.env = pure none := by rfl) (h1 : (assignEach [tg] X.env).map (·.2) = [assign tg X.env] := by rfl) :
    DS X (.Assign [tg] e pos) (wAsgG w g) := weakS (ps_asg he hg.run hs hw h1) fun E σ H ⟨U, δ, μ, F, c, e, w, k⟩ =>
  ⟨U, δ, μ, _, c, e, w, fun v d H1 μ1 s1 c1 r1 p => ⟨U, d, δ, μ1, _, c1, e.step s1, r1, p, fun σ' δ' e' p' _ => k.nx σ' δ' H1 μ1 s1 c1 e' p'⟩⟩
/-- i, j = x, y -/
def wPar (i j : Nat) (r : WA) : WS := fun F δ μ => r δ μ fun ds μ1 => ∃ x y, ds = [x, y] ∧ F.nx ((δ.set i (some x)).set j (some y)) μ1
theorem ds_par {i j : Nat} {x y : Str} {a b : Expr} {r : WA} {px py pt : Pos} {kt k2 pt2} (hc : X.calm = true) (hN : X.N.Nodup) (hi : X.N[i]? = some x) (hj : X.N[j]? = some y) (hij : i ≠ j)
    (hx : X.env.scope.names.lookup x = some .local) (hy : X.env.scope.names.lookup y = some .local) (ha : DA X [a, b] r)
    (hw : swappedStores [.Tuple [.Name x px, .Name y py] kt pt] (.Tuple [a, b] k2 pt2) X.env = pure (some [x, y]))
    (hs : swapsWithSole [.Tuple [.Name x px, .Name y py] kt pt] (.Tuple [a, b] k2 pt2) pos.line X.env = pure false := by rfl) :
    DS X (.Assign [.Tuple [.Name x px, .Name y py] kt pt] (.Tuple [a, b] k2 pt2) pos) (wPar i j r) :=
  weakS (ps_par hc hN hi hj hij hx hy ha hw hs) fun E σ H ⟨U, δ, μ, F, c, e, w, k⟩ => ⟨U, δ, μ, _, c, e, w, fun vs ds H1 μ1 s1 c1 r1 ⟨d1, d2, ed, p⟩ => by
    subst ed
    cases r1 with
    | cons q1 q2 =>
      cases q2 with
      | cons q2 q3 =>
        cases q3
        exact ⟨_, _, rfl, k.nx _ _ H1 μ1 s1 c1 (((e.step s1).set q1 i).set q2 j) p⟩⟩

/-! ### what is walked -/
abbrev WI := De → Mu → (List D → (Mu → Prop) → Mu → Prop) → Prop
def Yields (K : PySem.W.Frag) (J : It) (H : Hp) (μ : Mu) (U : Hid) (ds : List D) (chk : Mu → Prop) : Prop := ∀ H' μ' U', Keep H μ U H' μ' U' → ConcM K H' μ' U' → chk μ' → ∀ i : Nat,
  (i < ds.length → J.go i H' ∧ ∀ x H'', J.yld i H' x H'' → Step H' μ' H'' μ' ∧ ConcM K H'' μ' U' ∧ ∃ d, ds[i]? = some d ∧ RepV K H'' μ' U' x d) ∧ (i = ds.length → J.stop i H')
theorem Keep.trans {H H1 H2 : Hp} {μ μ1 μ2 : Mu} {U U1 U2 : Hid} (a : Keep H μ U H1 μ1 U1) (b : Keep H1 μ1 U1 H2 μ2 U2) : Keep H μ U H2 μ2 U2 := fun c o h n u => let ⟨h1, n1, u1⟩ := a c o h n u; b c o h1 n1 u1
theorem Yields.on {K : PySem.W.Frag} {J : It} {H H1 : Hp} {μ μ1 : Mu} {U U1 : Hid} {ds : List D} {chk : Mu → Prop} (y : Yields K J H μ U ds chk) (k : Keep H μ U H1 μ1 U1) : Yields K J H1 μ1 U1 ds chk :=
  fun H' μ' U' k' c q i => y H' μ' U' (k.trans k') c q i
def liftI (K : PySem.W.Frag) (wi : WI) : TI := fun σ H R => ∃ U δ μ P, ConcM K H μ U ∧ ConcE K H μ U σ δ ∧ wi δ μ P ∧ ∀ J ds chk H' μ', Step H μ H' μ' → ConcM K H' μ' U → Yields K J H' μ' U ds chk → P ds chk μ' → R J H'
abbrev DI (X : Cx) (tg iter : Expr) (wi : WI) : Prop := PI X tg iter (liftI X.K wi)
theorem weakI {tg iter : Expr} {t t' : TI} (h : PI X tg iter t) (f : ∀ σ H R, t' σ H R → t σ H R) : PI X tg iter t' := ⟨fun pins s σ H R I q => h.run pins s σ H R I (f σ H R q)⟩

/-! ### for -/
def forD (g : WG) (wb : WS) (chk : Mu → Prop) (F : DEnds) : List D → De → Mu → Prop
  | [], δ, μ => chk μ ∧ F.nx δ μ
  | x :: xs, δ, μ => chk μ ∧ g x δ fun δ' => wb { F with nx := forD g wb chk F xs, ct := forD g wb chk F xs, bk := F.nx } δ' μ
def wFor (wi : WI) (g : WG) (wb : WS) : WS := fun F δ μ => wi δ μ fun ds chk μ1 => forD g wb chk F ds δ μ1
theorem ds_for {tg iter : Expr} {body : List Stmt} {wi : WI} {g : WG} {ix : List Nat} {wb : WS} (hp : PassesOwn (model X.prog X.w) X.A X.env X.xe) (hc : X.calm = true) (hi : DI X tg iter wi) (hg : DG X tg g ix) (hb : DSs X body wb)
    (hs : ∀ x, foldedSetIterable iter X.env x = pure x := by intro _; rfl) : DS X (.For tg iter body [] pos) (wFor wi g wb) :=
  weakS (ps_for hp hc hi hg.run hb hs) fun E σ H ⟨U, δ, μ, F, c, e, w, k⟩ => by
    refine ⟨U, δ, μ, _, c, e, w, fun J ds chk H1 μ1 s1 c1 y f => ?_⟩
    refine ⟨fun i m σ' H' => m = ds.length - i ∧ i ≤ ds.length ∧ ∃ δ' μ', Step H1 μ1 H' μ' ∧ ConcM X.K H' μ' U ∧ ConcE X.K H' μ' U σ' δ' ∧ forD g wb chk F (ds.drop i) δ' μ', ⟨ds.length, rfl, Nat.zero_le _, δ, μ1, Step.refl _ _, c1, e.step s1, f⟩, ?_⟩
    rintro i m σ' H' ⟨hm, hi, δ', μ', s', c', e', f'⟩
    have hchk : chk μ' := by
      cases q : ds.drop i with
      | nil => rw [q] at f'; exact f'.1
      | cons a r => rw [q] at f'; exact f'.1
    obtain ⟨y1, y2⟩ := y H' μ' U (s'.kp U) c' hchk i
    by_cases hlt : i < ds.length
    · obtain ⟨go, yl⟩ := y1 hlt
      refine .inr ⟨go, fun σ2 H2 => ∃ δ2 μ2, Step H1 μ1 H2 μ2 ∧ ConcM X.K H2 μ2 U ∧ ConcE X.K H2 μ2 U σ2 δ2 ∧ forD g wb chk F (ds.drop (i + 1)) δ2 μ2, fun σ2 H2 h2 => ⟨ds.length - (i + 1), by omega, rfl, hlt, h2⟩, fun x H2 yx => ?_⟩
      obtain ⟨st, c2, d, hd, rd⟩ := yl x H2 yx
      have ed : ds.drop i = d :: ds.drop (i + 1) := by
        rw [List.drop_eq_getElem_cons hlt]
        rw [List.getElem?_eq_getElem hlt] at hd
        rw [Option.some.inj hd]
      rw [ed] at f'
      have s2 := s'.trans st
      refine ⟨U, d, δ', μ', _, c2, e'.step st, rd, f'.2, fun σ3 δ3 e3 p3 _ => ⟨U, δ3, μ', _, c2, e3, p3, ?_⟩⟩
      refine ⟨fun σ4 δ4 H4 μ4 s4 c4 r4 q4 => ⟨δ4, μ4, s2.trans s4, c4, r4, q4⟩, k.rt.on (s1.trans s2), k.nx.on (s1.trans s2), fun σ4 δ4 H4 μ4 s4 c4 r4 q4 => ⟨δ4, μ4, s2.trans s4, c4, r4, q4⟩⟩
    · have hi' : i = ds.length := by omega
      subst hi'
      rw [List.drop_length] at f'
      exact .inl ⟨y2 rfl, k.nx σ' δ' H' μ' (s1.trans s') c' e' f'.2⟩

/-! ### while -/
def wWhile (t : WT) (wb : WS) : WS := fun F δ μ => ∃ W : Nat → De → Mu → Prop, (∃ m, W m δ μ) ∧ ∀ m δ μ, W m δ μ →
  t δ μ fun b μ1 => if b = true then wb { F with nx := fun δ' μ' => ∃ m', m' < m ∧ W m' δ' μ', ct := fun δ' μ' => ∃ m', m' < m ∧ W m' δ' μ', bk := F.nx } δ μ1 else F.nx δ μ1
theorem ds_while {c : Expr} {body : List Stmt} {t : WT} {wb : WS} (hp : PassesOwn (model X.prog X.w) X.A X.env X.xe) (hc : DT X c t) (hb : DSs X body wb) : DS X (.While c body [] pos) (wWhile t wb) :=
  weakS (ps_while hp hc hb) fun E σ H ⟨U, δ, μ, F, c, e, ⟨W, ⟨m0, w0⟩, w⟩, k⟩ => by
    refine ⟨fun m σ' H' => ∃ δ' μ', Step H μ H' μ' ∧ ConcM X.K H' μ' U ∧ ConcE X.K H' μ' U σ' δ' ∧ W m δ' μ', ⟨m0, δ, μ, Step.refl _ _, c, e, w0⟩, ?_⟩
    rintro m σ1 H1 ⟨δ1, μ1, s1, c1, e1, w1⟩
    refine ⟨U, δ1, μ1, _, c1, e1, w m δ1 μ1 w1, fun b b' H2 μ2 s2 c2 eb p => ?_⟩
    subst eb
    cases b with
    | true =>
      rw [if_pos rfl] at p ⊢
      refine ⟨fun σ' H' => ∃ m', m' < m ∧ ∃ δ' μ', Step H μ H' μ' ∧ ConcM X.K H' μ' U ∧ ConcE X.K H' μ' U σ' δ' ∧ W m' δ' μ', fun _ _ h => h, U, δ1, μ2, _, c2, e1.step s2, p, ?_⟩
      exact ⟨fun σ3 δ3 H3 μ3 s3 c3 e3 ⟨m', hm, w3⟩ => ⟨m', hm, δ3, μ3, (s1.trans s2).trans s3, c3, e3, w3⟩, k.rt.on (s1.trans s2), k.nx.on (s1.trans s2), fun σ3 δ3 H3 μ3 s3 c3 e3 ⟨m', hm, w3⟩ => ⟨m', hm, δ3, μ3, (s1.trans s2).trans s3, c3, e3, w3⟩⟩
    | false =>
      rw [if_neg Bool.false_ne_true] at p ⊢
      exact k.nx σ1 δ1 H2 μ2 (s1.trans s2) c2 (e1.step s2) p
end

/-! ### list comprehensions -/
section
variable {X : Cx} {pos : Pos}
abbrev WTs := WT
def lcD (g : WG) (tt : WT) (te : WE) (vs : List Nat) (chk : Mu → Prop) (P : D → Mu → Prop) (δ : De) : List D → List D → Mu → Prop
  | [], acc, μ => chk μ ∧ P (.lst acc) μ
  | x :: xs, acc, μ => chk μ ∧ g x (wipeD δ vs) fun δ' => tt δ' μ fun b μ1 => if b = true then te δ' μ1 fun y μ2 => lcD g tt te vs chk P δ xs (acc ++ [y]) μ2 else lcD g tt te vs chk P δ xs acc μ1
def wLc (wi : WI) (g : WG) (tt : WT) (te : WE) (vs : List Nat) : WE := fun δ μ P => wi δ μ fun ds chk μ1 => ds.length ≤ lim ∧ lcD g tt te vs chk P δ ds [] μ1
theorem lcD_chk {g : WG} {tt : WT} {te : WE} {vs : List Nat} {chk : Mu → Prop} {P : D → Mu → Prop} {δ : De} {ds acc : List D} {μ : Mu} (h : lcD g tt te vs chk P δ ds acc μ) : chk μ := by
  cases ds with
  | nil => exact h.1
  | cons a r => exact h.1
theorem wipe_idem (τ : L2.St) (l m : List Nat) : (∀ i ∈ l, i ∈ m) → wipe (wipe τ m) l = wipe τ m := by
  induction l with
  | nil => intro _; rfl
  | cons a r ih =>
    intro hs
    show (wipe (wipe τ m) r).set a none = wipe τ m
    rw [ih fun i hi => hs i (List.mem_cons_of_mem _ hi)]
    refine List.ext_getElem? fun j => ?_
    by_cases hj : a = j
    · subst hj
      by_cases hlt : a < (wipe τ m).length
      · rw [List.getElem?_set_self hlt]
        cases e : (wipe τ m)[a]? with
        | none => rw [List.getElem?_eq_none_iff] at e; omega
        | some v =>
          cases v with
          | none => rfl
          | some v => exact absurd (hs a List.mem_cons_self) (wipe_some e).2
      · rw [List.getElem?_eq_none (by rw [List.length_set]; omega), List.getElem?_eq_none (by omega)]
    · rw [List.getElem?_set_ne hj]
theorem wipe_wipe (τ : L2.St) (vs : List Nat) : wipe (wipe τ vs) vs = wipe τ vs := wipe_idem τ vs vs fun _ h => h
theorem lc_core {g : WG} {ix : List Nat} {tt : WT} {te : WE} {vs : List Nat} (hix : ∀ i ∈ ix, i ∈ vs) {σ : L2.St} {H H1 : Hp} {μ μ1 : Mu} {U : Hid} {δ : De} {P : D → Mu → Prop} {Q : VK} {J : It} {ds : List D} {chk : Mu → Prop} {L : Addr} (e : ConcE X.K H μ U σ δ) (s1 : Step H μ H1 μ1) (c1 : ConcM X.K H1 μ1 U) (y : Yields X.K J H1 μ1 U ds chk)
    (hz : ds.length ≤ lim) (f : lcD g tt te vs chk P δ ds [] μ1) (hL : H1 L = none) (fin : ∀ H' μ' vs' acc, Step H1 μ1 H' μ' → ConcM X.K H' μ' (hide U L) → H' L = some (.lst vs') → μ' L = none → RepL X.K H' μ' (hide U L) vs' acc → P (.lst acc) μ' → Q (.ref L) H') :
    ∃ W : Nat → Nat → Hp → Prop, (∃ m, W 0 m (upd H1 L (.lst []))) ∧ ∀ i m H, W i m H → (J.stop i H ∧ Q (.ref L) H) ∨ (J.go i H ∧ ∃ Nx : Hp → Prop, (∀ H', Nx H' → ∃ m', m' < m ∧ W (i + 1) m' H') ∧ ∀ x H', J.yld i H x H' → liftG X.K g ix x (wipe σ vs) H' fun σ2 H2 => wipe σ2 vs = wipe σ vs ∧ liftT X.K tt σ2 H2 fun b H3 =>
      if b = true then liftE X.K te σ2 H3 fun z H4 => ∃ zs, H4 L = some (.lst zs) ∧ zs.length < sizeLine ∧ Nx (upd H4 L (.lst (zs ++ [z]))) else Nx H3) := by
  refine ⟨fun i m H' => m = ds.length - i ∧ i ≤ ds.length ∧ ∃ vs' acc μ', Step H1 μ1 H' μ' ∧ ConcM X.K H' μ' (hide U L) ∧ ConcE X.K H' μ' (hide U L) σ δ ∧ H' L = some (.lst vs') ∧ μ' L = none ∧ RepL X.K H' μ' (hide U L) vs' acc ∧ acc.length ≤ i ∧
    Keep H1 μ1 U H' μ' (hide U L) ∧ lcD g tt te vs chk P δ (ds.drop i) acc μ', ⟨ds.length, rfl, Nat.zero_le _, [], [], μ1, Step.new hL, c1.hide hL, (e.step s1).keep (keep_hide hL), upd_same, c1.no hL, .nil, Nat.le_refl _, keep_hide hL, f⟩, ?_⟩
  rintro i m H' ⟨hm, hi, vs', acc, μ', s', c', e', hL', nL, ra, hacc, kp, f'⟩
  obtain ⟨y1, y2⟩ := y H' μ' (hide U L) kp c' (lcD_chk f') i
  by_cases hlt : i < ds.length
  · obtain ⟨go, yl⟩ := y1 hlt
    refine .inr ⟨go, fun H2 => ∃ vs' acc μ2, Step H1 μ1 H2 μ2 ∧ ConcM X.K H2 μ2 (hide U L) ∧ ConcE X.K H2 μ2 (hide U L) σ δ ∧ H2 L = some (.lst vs') ∧ μ2 L = none ∧ RepL X.K H2 μ2 (hide U L) vs' acc ∧ acc.length ≤ i + 1 ∧
      Keep H1 μ1 U H2 μ2 (hide U L) ∧ lcD g tt te vs chk P δ (ds.drop (i + 1)) acc μ2, fun H2 h2 => ⟨ds.length - (i + 1), by omega, rfl, hlt, h2⟩, fun x H2 yx => ?_⟩
    obtain ⟨st, c2, d, hd, rd⟩ := yl x H2 yx
    have ed : ds.drop i = d :: ds.drop (i + 1) := by
      rw [List.drop_eq_getElem_cons hlt]
      rw [List.getElem?_eq_getElem hlt] at hd
      rw [Option.some.inj hd]
    rw [ed] at f'
    have e2 := e'.step st
    refine ⟨hide U L, d, wipeD δ vs, μ', _, c2, e2.wipe vs, rd, f'.2, fun σ3 δ3 e3 p3 w3 => ⟨?_, hide U L, δ3, μ', _, c2, e3, p3, fun b b' H4 μ4 s4 c4 eb p4 => ?_⟩⟩
    · have q := w3 vs hix
      rw [q]
      exact wipe_wipe σ vs
    · subst eb
      obtain ⟨hL2, nL2⟩ := st L _ hL' nL
      obtain ⟨hL4, nL4⟩ := s4 L _ hL2 nL2
      have r4 := (ra.step st).step s4
      have k4 : Keep H1 μ1 U H4 μ4 (hide U L) := kp.trans ((st.trans s4).kp _)
      cases b with
      | true =>
        rw [if_pos rfl] at p4 ⊢
        refine ⟨hide U L, δ3, μ4, _, c4, e3.step s4, p4, fun yv yd H5 μ5 s5 c5 r5 p5 => ?_⟩
        obtain ⟨hL5, nL5⟩ := s5 L _ hL4 nL4
        have ra5 := (r4.step s5).snoc r5
        have kw : ∀ o, Keep H5 μ5 (hide U L) (upd H5 L o) μ5 (hide U L) := fun o => keep_hidden (.inr rfl)
        refine ⟨vs', hL5, by rw [ra.length]; exact lim_lt (by omega), vs' ++ [yv], acc ++ [yd], μ5, fun b o hb nb => ?_, c5.hidden (.inr rfl), (((e2.step s4).step s5).keep (kw _)), upd_same, nL5, ra5.keep (kw _), by rw [List.length_append]; exact Nat.succ_le_succ hacc, (k4.trans (s5.kp _)).trans (kw _), p5⟩
        have := ((s'.trans st).trans s4).trans s5 b o hb nb
        rw [upd_ne (ne_of_none hb hL)]
        exact this
      | false =>
        rw [if_neg Bool.false_ne_true] at p4 ⊢
        exact ⟨vs', acc, μ4, (s'.trans st).trans s4, c4, e2.step s4, hL4, nL4, r4, Nat.le_succ_of_le hacc, k4, p4⟩
  · have hi' : i = ds.length := by omega
    subst hi'
    rw [List.drop_length] at f'
    exact .inl ⟨y2 rfl, fin H' μ' vs' acc s' c' hL' nL ra f'.2⟩
theorem lc_ok {wi : WI} {g : WG} {ix : List Nat} {tt : WT} {te : WE} {vs : List Nat} (hix : ∀ i ∈ ix, i ∈ vs) : ∀ σ H Q, liftE X.K (wLc wi g tt te vs) σ H Q → tLc (liftI X.K wi) (liftG X.K g ix) (liftT X.K tt) (liftE X.K te) vs σ H Q := by
  rintro σ H Q ⟨U, δ, μ, P, c, e, w, k⟩
  refine ⟨U, δ, μ, _, c, e, w, fun J ds chk H1 μ1 s1 c1 y ⟨hz, f⟩ L hL => lc_core hix e s1 c1 y hz f hL fun H' μ' vs' acc s' c' hL' nL ra p => ?_⟩
  exact k _ _ H' μ' (s1.trans s') c'.unhide (.lst hL' nL (c1.nu hL) (ra.keep keep_unhide)) p
/-- the same, the new list will change -/
def endM (P : D → Mu → Prop) : D → Mu → Prop := fun d μ => ∃ xs, d = .lst xs ∧ ∀ p, μ p = none → P (.own p) (mset μ p (.lst xs))
def wLcM (wi : WI) (g : WG) (tt : WT) (te : WE) (vs : List Nat) : WE := fun δ μ P => wi δ μ fun ds chk μ1 => ds.length ≤ lim ∧ lcD g tt te vs chk (endM P) δ ds [] μ1
theorem lcM_ok {wi : WI} {g : WG} {ix : List Nat} {tt : WT} {te : WE} {vs : List Nat} (hix : ∀ i ∈ ix, i ∈ vs) : ∀ σ H Q, liftE X.K (wLcM wi g tt te vs) σ H Q → tLc (liftI X.K wi) (liftG X.K g ix) (liftT X.K tt) (liftE X.K te) vs σ H Q := by
  rintro σ H Q ⟨U, δ, μ, P, c, e, w, k⟩
  refine ⟨U, δ, μ, _, c, e, w, fun J ds chk H1 μ1 s1 c1 y ⟨hz, f⟩ L hL => lc_core hix e s1 c1 y hz f hL fun H' μ' vs' acc s' c' hL' nL ra ⟨xs, ex, p⟩ => ?_⟩
  cases ex
  have kp : Keep H' μ' (hide U L) H' (mset μ' L (.lst acc)) U := fun b o hb nb ub => ⟨hb, by rw [mset_ne fun z => ub (.inr z)]; exact nb, fun z => ub (.inl z)⟩
  have st : Step H1 μ1 H' (mset μ' L (.lst acc)) := fun b o hb nb => ⟨(s' b o hb nb).1, by rw [mset_ne (ne_of_none hb hL)]; exact (s' b o hb nb).2⟩
  have cM : ConcM X.K H' (mset μ' L (.lst acc)) U := ⟨fun b u hb => by
    by_cases q : b = L
    · subst q
      rw [mset_same] at hb
      cases hb
      exact ⟨c1.nu hL, vs', hL', ra.keep kp⟩
    · rw [mset_ne q] at hb
      exact ⟨fun z => (c'.ob b u hb).1 (.inl z), (c'.ob b u hb).2.keep kp rfl⟩, fun b z => c'.fr b (.inl z)⟩
  exact k _ _ H' _ (s1.trans st) cM (.own L) (p L nL)
theorem dts_nil {X : Cx} : PTs X [] (liftT X.K fun _ μ P => P true μ) := ⟨fun pins s σ H Q I ⟨U, δ, μ, P, c, e, w, k⟩ => pts_nil.run pins s σ H Q I (k true true H μ (Step.refl _ _) c rfl w)⟩
def wYes : WT := fun _ μ P => P true μ
theorem dts_one {X : Cx} {c : Expr} {t : WT} (h : DT X c t) : PTs X [c] (liftT X.K t) := pts_one h
theorem de_lc {elt tg iter : Expr} {ifs : List Expr} {scope : Scope} {own : List (Str × Nat)} {wi : WI} {g : WG} {ix : List Nat} {tt : WT} {te : WE} (hc : X.calm = true) (hN : X.N.Nodup) (hi : DI X tg iter wi) (ok : BlkOk X.N X.env.scope scope own)
    (hg : ∀ (s : Shared) (H : Hp) (C : Addr) (cl : List (Str × Addr)) (fp : List Addr), DG (X.blk s H scope (compEnvC scope cl C X.env) fp) tg g ix) (ht : ∀ (s : Shared) (H : Hp) (C : Addr) (cl : List (Str × Addr)) (fp : List Addr), PTs (X.blk s H scope (compEnvC scope cl C X.env) fp) ifs (liftT X.K tt))
    (he : ∀ (s : Shared) (H : Hp) (C : Addr) (cl : List (Str × Addr)) (fp : List Addr), DE (X.blk s H scope (compEnvC scope cl C X.env) fp) elt te) (hix : ∀ i ∈ ix, i ∈ own.map (·.2) := by decide) (hs : ∀ x, foldedSetIterable iter X.env x = pure x := by intro _; rfl) :
    DE X (.ListComp elt [⟨tg, iter, ifs, 0⟩] scope pos) (wLc wi g tt te (own.map (·.2))) :=
  weakE (pe_lc hc hN hi ok (fun s H C cl fp => (hg s H C cl fp).run) ht he hs) (lc_ok hix)
theorem ds_setLc {i : Nat} {y : Str} {py : Pos} {elt tg iter : Expr} {ifs : List Expr} {scope : Scope} {own : List (Str × Nat)} {spos : Pos} {wi : WI} {g : WG} {ix : List Nat} {tt : WT} {te : WE} (hc : X.calm = true) (hN : X.N.Nodup) (hy : X.N[i]? = some y) (hyl : X.env.scope.names.lookup y = some .local)
    (hsw : swapsWith (.ListComp elt [⟨tg, iter, ifs, 0⟩] scope pos) (some (.Name y py)) spos.line X.env = pure true) (hi : DI X tg iter wi) (ok : BlkOk X.N X.env.scope scope own)
    (hg : ∀ (s : Shared) (H : Hp) (C : Addr) (cl : List (Str × Addr)) (fp : List Addr), DG (X.blk s H scope (compEnvC scope cl C X.env) fp) tg g ix) (ht : ∀ (s : Shared) (H : Hp) (C : Addr) (cl : List (Str × Addr)) (fp : List Addr), PTs (X.blk s H scope (compEnvC scope cl C X.env) fp) ifs (liftT X.K tt))
    (he : ∀ (s : Shared) (H : Hp) (C : Addr) (cl : List (Str × Addr)) (fp : List Addr), DE (X.blk s H scope (compEnvC scope cl C X.env) fp) elt te) (hix : ∀ i ∈ ix, i ∈ own.map (·.2) := by decide) (hs : ∀ x, foldedSetIterable iter X.env x = pure x := by intro _; rfl) :
    DS X (.Assign [.Name y py] (.ListComp elt [⟨tg, iter, ifs, 0⟩] scope pos) spos) (wAsg (wLc wi g tt te (own.map (·.2))) i) :=
  weakS (ps_setLc hc hN hy hyl hsw hi ok (fun s H C cl fp => (hg s H C cl fp).run) ht he hs) fun E σ H h => by
    obtain ⟨U, δ, μ, F, c, e, w, k⟩ := h
    exact lc_ok hix _ _ _ ⟨U, δ, μ, _, c, e, w, fun v d H1 μ1 s1 c1 r1 p => k.nx (σ.set i (some v)) (δ.set i (some d)) H1 μ1 s1 c1 ((e.step s1).set r1 i) p⟩
theorem de_lcM {elt tg iter : Expr} {ifs : List Expr} {scope : Scope} {own : List (Str × Nat)} {wi : WI} {g : WG} {ix : List Nat} {tt : WT} {te : WE} (hc : X.calm = true) (hN : X.N.Nodup) (hi : DI X tg iter wi) (ok : BlkOk X.N X.env.scope scope own)
    (hg : ∀ (s : Shared) (H : Hp) (C : Addr) (cl : List (Str × Addr)) (fp : List Addr), DG (X.blk s H scope (compEnvC scope cl C X.env) fp) tg g ix) (ht : ∀ (s : Shared) (H : Hp) (C : Addr) (cl : List (Str × Addr)) (fp : List Addr), PTs (X.blk s H scope (compEnvC scope cl C X.env) fp) ifs (liftT X.K tt))
    (he : ∀ (s : Shared) (H : Hp) (C : Addr) (cl : List (Str × Addr)) (fp : List Addr), DE (X.blk s H scope (compEnvC scope cl C X.env) fp) elt te) (hix : ∀ i ∈ ix, i ∈ own.map (·.2) := by decide) (hs : ∀ x, foldedSetIterable iter X.env x = pure x := by intro _; rfl) :
    DE X (.ListComp elt [⟨tg, iter, ifs, 0⟩] scope pos) (wLcM wi g tt te (own.map (·.2))) :=
  weakE (pe_lc hc hN hi ok (fun s H C cl fp => (hg s H C cl fp).run) ht he hs) (lcM_ok hix)
theorem ds_setLcM {i : Nat} {y : Str} {py : Pos} {elt tg iter : Expr} {ifs : List Expr} {scope : Scope} {own : List (Str × Nat)} {spos : Pos} {wi : WI} {g : WG} {ix : List Nat} {tt : WT} {te : WE} (hc : X.calm = true) (hN : X.N.Nodup) (hy : X.N[i]? = some y) (hyl : X.env.scope.names.lookup y = some .local)
    (hsw : swapsWith (.ListComp elt [⟨tg, iter, ifs, 0⟩] scope pos) (some (.Name y py)) spos.line X.env = pure true) (hi : DI X tg iter wi) (ok : BlkOk X.N X.env.scope scope own)
    (hg : ∀ (s : Shared) (H : Hp) (C : Addr) (cl : List (Str × Addr)) (fp : List Addr), DG (X.blk s H scope (compEnvC scope cl C X.env) fp) tg g ix) (ht : ∀ (s : Shared) (H : Hp) (C : Addr) (cl : List (Str × Addr)) (fp : List Addr), PTs (X.blk s H scope (compEnvC scope cl C X.env) fp) ifs (liftT X.K tt))
    (he : ∀ (s : Shared) (H : Hp) (C : Addr) (cl : List (Str × Addr)) (fp : List Addr), DE (X.blk s H scope (compEnvC scope cl C X.env) fp) elt te) (hix : ∀ i ∈ ix, i ∈ own.map (·.2) := by decide) (hs : ∀ x, foldedSetIterable iter X.env x = pure x := by intro _; rfl) :
    DS X (.Assign [.Name y py] (.ListComp elt [⟨tg, iter, ifs, 0⟩] scope pos) spos) (wAsg (wLcM wi g tt te (own.map (·.2))) i) :=
  weakS (ps_setLc hc hN hy hyl hsw hi ok (fun s H C cl fp => (hg s H C cl fp).run) ht he hs) fun E σ H h => by
    obtain ⟨U, δ, μ, F, c, e, w, k⟩ := h
    exact lcM_ok hix _ _ _ ⟨U, δ, μ, _, c, e, w, fun v d H1 μ1 s1 c1 r1 p => k.nx (σ.set i (some v)) (δ.set i (some d)) H1 μ1 s1 c1 ((e.step s1).set r1 i) p⟩
end
end L3
/-! L3Iter -/
/-! L3Iter: what is walked: lists and tuples, ranges, enumerate, zip of lists and tuples in any mix, texts. -/
namespace L3
open PySem PySem.Spec PyProof.Rows L2

/-! ### a list or a tuple, by its kind -/
def SqK (k : Bool) (K : PySem.W.Frag) (H : Hp) (a : Addr) (xs : List V) : Prop := match k with
  | true => SqL K H a xs
  | false => SqT K H a xs
def IterK (k : Bool) (h : Heap) (it a : Addr) (i : Nat) : Prop := match k with
  | true => h.IsListIter it a i
  | false => h.IsTupleIter it a i
def IsK (k : Bool) (h : Heap) (a : Addr) (items : Array Value) : Prop := match k with
  | true => h.IsList a items
  | false => h.IsTuple a items
section
variable {X : Cx} {pins : List (Addr × Obj)} {σ : L2.St} {H : Hp} {s : Shared} {a : Addr} {xs ys : List V} {k : Bool}
theorem seqK (I : Inv X pins σ H s) (h : SqK k X.K H a xs) : ∃ its : List Value, Vals xs its ∧ IsK k s.heap a its.toArray ∧ a < s.heap.objs.size := by
  cases k with
  | true =>
    obtain ⟨its, r, p, _⟩ := I.list h
    exact ⟨its, r, p.isList, p.lt⟩
  | false =>
    obtain ⟨its, r, p, _⟩ := I.tuple h
    obtain ⟨o, ho, _⟩ := id p
    exact ⟨its, r, p, Heap.lt_size ho⟩
theorem seqK_inj (I : Inv X pins σ H s) (h : SqK k X.K H a xs) (h' : SqK k X.K H a ys) : xs = ys := by
  cases k with
  | true => exact I.list_inj h h'
  | false => exact I.tuple_inj h h'
theorem iterK_at {h h' : Heap} {it : Addr} {i : Nat} (x : IterK k h it a i) (f : ∀ o, h.get? it = some o → h'.get? it = some o) : IterK k h' it a i := by
  cases k with
  | true => exact Heap.IsListIter.at x f
  | false => exact Heap.IsTupleIter.at x f
theorem iterK_obj {h : Heap} {it : Addr} {i : Nat} (x : IterK k h it a i) : ∃ o, h.get? it = some o ∧ ∀ v, o.data ≠ .cell v := by
  cases k with
  | true => obtain ⟨o, e, _, d⟩ := x; exact ⟨o, e, fun v q => by rw [d] at q; cases q⟩
  | false => obtain ⟨o, e, _, d⟩ := x; exact ⟨o, e, fun v q => by rw [d] at q; cases q⟩
theorem drawsK {prog : Program} {w : World} {A : Around} (hh : A.handled = none) (it l : Addr) (hne : l ≠ it) (items : Array Value) :
    Draws prog w A it [it, l] items.size (fun i v => items[i]? = some v) (fun i h => IterK k h it l i ∧ IsK k h l items) := by
  cases k with
  | true => exact Draws.list hh it l hne items
  | false => exact Draws.tuple hh it l hne items
end

/-! ### zip -/
def ItzK (k1 k2 : Bool) (K : PySem.W.Frag) (a b : Addr) : It :=
  ⟨fun i H => ∃ (xs ys : List V) (x y : V), SqK k1 K H a xs ∧ SqK k2 K H b ys ∧ xs[i]? = some x ∧ ys[i]? = some y,
    fun i H v H' => ∃ T x y, v = .ref T ∧ H T = none ∧ H' = upd H T (.tup [x, y]) ∧ (∀ xs, SqK k1 K H a xs → xs[i]? = some x) ∧ ∀ ys, SqK k2 K H b ys → ys[i]? = some y,
    fun i H => ∃ xs ys : List V, SqK k1 K H a xs ∧ SqK k2 K H b ys ∧ i ≤ xs.length ∧ i ≤ ys.length ∧ (xs.length = i ∨ ys.length = i)⟩
theorem sep_of {z TI TO i1 i2 a b : Addr} (D : ZipApart z TI TO i1 i2 a b) : ZipSep2 z TI TO i1 i2 [i1, a] [i2, b] where
  TIz := D.TIz
  TOz := D.TOz
  TITO := D.TITO
  TIi1 := D.TIi1
  mem1 := List.mem_cons_self
  zf1 := fun h => by
    rcases List.mem_cons.mp h with e | h
    · exact D.i1z e.symm
    · exact D.l1z (List.mem_singleton.mp h).symm
  Tf1 := fun h => by
    rcases List.mem_cons.mp h with e | h
    · exact D.TOi1 e
    · exact D.l1TO (List.mem_singleton.mp h).symm
  TIi2 := D.TIi2
  mem2 := List.mem_cons_self
  zf2 := fun h => by
    rcases List.mem_cons.mp h with e | h
    · exact D.i2z e.symm
    · exact D.l2z (List.mem_singleton.mp h).symm
  Tf2 := fun h => by
    rcases List.mem_cons.mp h with e | h
    · exact D.TOi2 e
    · exact D.l2TO (List.mem_singleton.mp h).symm
  sep1_2 := fun h => by
    rcases List.mem_cons.mp h with e | h
    · exact D.i12 e
    · exact D.l2i1 (List.mem_singleton.mp h).symm
  sep2_1 := fun h => by
    rcases List.mem_cons.mp h with e | h
    · exact D.i12 e.symm
    · exact D.l1i2 (List.mem_singleton.mp h).symm
theorem turn_zipK {P : Program} {w : World} {K : PySem.W.Frag} {elts : List Expr} {kk : Nat} {tpos : Pos} {k1 k2 : Bool} {a b z TI TO i1 i2 : Addr} (D : ZipApart z TI TO i1 i2 a b) :
    Turn P w K (.Tuple elts kk tpos) (ItzK k1 k2 K a b) [z, TI, TO, i1, i2] z (fun i h => IsZip h z TI TO .none ∧ IsTupOf2 h TI (.ref i1) (.ref i2) ∧ (∃ x y, IsTupOf2 h TO x y) ∧ IterK k1 h i1 a i ∧ IterK k2 h i2 b i) where
  mem := by simp
  obj := fun i h st c hc => by
    obtain ⟨hz, hTI, ⟨x, y, hTO⟩, h1, h2⟩ := st
    have e' : c = z ∨ c = TI ∨ c = TO ∨ c = i1 ∨ c = i2 := by simpa using hc
    rcases e' with q | q | q | q | q
    · rw [q]; exact ⟨_, hz, fun v q => nomatch q⟩
    · rw [q]; exact ⟨_, hTI, fun v q => nomatch q⟩
    · rw [q]; exact ⟨_, hTO, fun v q => nomatch q⟩
    · rw [q]; exact iterK_obj h1
    · rw [q]; exact iterK_obj h2
  keep := fun i h h' st k => by
    obtain ⟨hz, hTI, ⟨x, y, hTO⟩, h1, h2⟩ := st
    exact ⟨k z (by simp) _ hz, k TI (by simp) _ hTI, ⟨x, y, k TO (by simp) _ hTO⟩, iterK_at h1 fun o q => k i1 (by simp) o q, iterK_at h2 fun o q => k i2 (by simp) o q⟩
  item := by
    intro X hP hw hK hc i pins s σ H E I hf st hg
    subst hP hw hK
    obtain ⟨hz, hTI, ⟨x0, y0, hTO⟩, h1, h2⟩ := st
    obtain ⟨xs, ys, x, y, hqx, hqy, hx, hy⟩ := hg
    obtain ⟨its, rv, p, _⟩ := seqK I hqx
    obtain ⟨its2, rv2, p2, _⟩ := seqK I hqy
    obtain ⟨u, hu, ru⟩ := rv.get hx
    obtain ⟨u2, hu2, ru2⟩ := rv2.get hy
    have hzl : z < s.heap.objs.size := Heap.lt_size hz
    have hh := I.ok.hd hc
    have l1 : i < its.toArray.size := by simpa using (List.getElem?_eq_some_iff.mp hu).1
    have l2 : i < its2.toArray.size := by simpa using (List.getElem?_eq_some_iff.mp hu2).1
    refine wpAny_pyNext_zipD2_item (a1 := x0) (a2 := y0) (sep_of D) (drawsK (k := k1) (by exact hh) i1 a D.l1i1 its.toArray) (drawsK (k := k2) (by exact hh) i2 b D.l2i2 its2.toArray) hz hTI hTO ⟨h1, p⟩ ⟨h2, p2⟩ l1 l2 fun v1 v2 h' tk e1 e2 z' TO' s1' s2' hT hsz hk => ?_
    obtain rfl : v1 = u := by rw [show its.toArray[i]? = its[i]? by simp, hu] at e1; exact (Option.some.inj e1).symm
    obtain rfl : v2 = u2 := by rw [show its2.toArray[i]? = its2[i]? by simp, hu2] at e2; exact (Option.some.inj e2).symm
    refine ⟨_, rfl, wpAny_letOwnedTupleGo_zip (s := { s with heap := h', toks := tk }) z' fun h'' z'' sb => ?_⟩
    have hT2 : h''.get? s.heap.objs.size = some { cls := .type "tuple", data := .seq #[v1, v2] } := (sb.2 _ (Nat.ne_of_gt hzl)).trans hT
    have new : ObjOk X.prog X.w (upd H s.heap.objs.size (.tup [x, y])) h'' s.heap.objs.size (.tup [x, y]) :=
      ⟨by show 2 ≤ sizeLine; decide, [v1, v2], .cons ru (.cons ru2 .nil), ⟨_, hT2, rfl, _, rfl⟩⟩
    have I1 : Inv X pins σ (upd H s.heap.objs.size (.tup [x, y])) { s with heap := h'', toks := tk } :=
      I.turnedNew (ch := [z, TI, TO, i1, i2]) (fun c o hb q => (sb.2 c (fun q' => hb (by simp [q']))).trans (hk c o (fun q' => hb (by simp [q'])) (fun q' => hb (by simp [q'])) (fun q' => hb (by simp [q'])) (fun q' => hb (by simp [q'])) q)) hf (Nat.le_refl _) new
    refine ⟨.ref s.heap.objs.size, _, I1, rfl, ⟨_, x, y, rfl, I.hok.fresh (Nat.le_refl _), rfl, fun l hl => by rw [seqK_inj I hl hqx]; exact hx, fun l hl => by rw [seqK_inj I hl hqy]; exact hy⟩, ⟨z'', ?_, ⟨v1, v2, ?_⟩, ?_, ?_⟩, fun c hcm => ?_⟩
    · exact (sb.2 _ D.TIz).trans (hk _ _ D.TIz D.TITO D.TIi1 D.TIi2 hTI)
    · exact (sb.2 _ D.TOz).trans TO'
    · exact iterK_at s1'.1 fun o q => (sb.2 _ D.i1z).trans q
    · exact iterK_at s2'.1 fun o q => (sb.2 _ D.i2z).trans q
    · have hlt : c < s.heap.objs.size := by
        have e' : c = z ∨ c = TI ∨ c = TO ∨ c = i1 ∨ c = i2 := by simpa using hcm
        rcases e' with q | q | q | q | q
        · rw [q]; exact hzl
        · rw [q]; exact Heap.lt_size hTI
        · rw [q]; exact Heap.lt_size hTO
        · rw [q]; obtain ⟨_, e1, _⟩ := iterK_obj h1; exact Heap.lt_size e1
        · rw [q]; obtain ⟨_, e2, _⟩ := iterK_obj h2; exact Heap.lt_size e2
      rw [upd_ne (Nat.ne_of_lt hlt)]
      exact (hf c hcm).1
  done := by
    intro X hP hw hK hc i pins s σ H E I hf st hg
    subst hP hw hK
    obtain ⟨hz, hTI, ⟨x0, y0, hTO⟩, h1, h2⟩ := st
    obtain ⟨xs, ys, hqx, hqy, le1, le2, hend⟩ := hg
    obtain ⟨its, rv, p, _⟩ := seqK I hqx
    obtain ⟨its2, rv2, p2, _⟩ := seqK I hqy
    have l1 := rv.length
    have l2 := rv2.length
    have hh := I.ok.hd hc
    exact wpAny_pyNext_zipD2_end (a1 := x0) (a2 := y0) (sep_of D) (drawsK (k := k1) (by exact hh) i1 a D.l1i1 its.toArray) (drawsK (k := k2) (by exact hh) i2 b D.l2i2 its2.toArray) hz hTI hTO ⟨h1, p⟩ ⟨h2, p2⟩ (by simp; omega) (by simp; omega) (by simp; omega) fun h' tk hk => ⟨rfl, I.turnedL (t' := tk) (ch := [z, TI, TO, i1, i2]) (fun c o hb q =>
      hk c o (fun q' => hb (by simp [q'])) (fun q' => hb (by simp [q'])) (fun q' => hb (by simp [q'])) (fun q' => hb (by simp [q'])) q) hf⟩
  self := fun A i s Q E st h => wpAny_pyIter_zip st.1 h
def objK (k : Bool) (l : Addr) : Obj := match k with
  | true => { cls := .type "list_iterator", data := .fields #[.ref l, .int 0 0] }
  | false => { cls := .type "tuple_iterator", data := .fields #[.ref l, .int 0 0] }
theorem beginsK {k : Bool} (l : Addr) (items : Array Value) : Begins (.ref l) (objK k l) fun h => IsK k h l items := by
  cases k with
  | true => exact begins_list l items
  | false => exact begins_tuple l items
theorem iterK_new {k : Bool} {h : Heap} {it l : Addr} (e : h.get? it = some (objK k l)) : IterK k h it l 0 := by
  cases k with
  | true => exact ⟨_, e, rfl, rfl⟩
  | false => exact ⟨_, e, rfl, rfl⟩
def iZipK (K : PySem.W.Frag) (ta : TA) : TI := fun σ H R => ta σ H fun vs H1 => ∃ k1 k2 a b xs ys, vs = [.ref a, .ref b] ∧ SqK k1 K H1 a xs ∧ SqK k2 K H1 b ys ∧ R (ItzK k1 k2 K a b) H1
theorem pi_zipK {X : Cx} {e e2 : Expr} {ta : TA} {p pos tpos : Pos} {elts : List Expr} {kk : Nat} (hg : Gl X "zip") (hm : X.mg "zip" = none) (ha : PA X [e, e2] ta)
    (hs : starEach [e, e2] X.env = (false, eval e X.env) :: starEach [e2] X.env := by rfl) (hpl : (backTo pos (starEach [e2] X.env)).any (·.1) = false := by rfl) :
    PI X (.Tuple elts kk tpos) (.Call (.Name "zip" p) [e, e2] [] pos) (iZipK X.K ta) := by
  refine ⟨fun pins s σ H R I h => ?_⟩
  refine Call_ (ld_blt I hg hm PyProof.Rows.boot_zip (PyProof.Rows.callWith_type1 (thn (ha.run pos pins s σ H _ I h) fun us s1 ⟨vs, H1, I1, r1, q1⟩ => ?_) hs hpl))
  obtain ⟨k1, k2, a, b, xs, ys, ex, hqx, hqy, q⟩ := q1
  subst ex
  cases r1 with
  | cons r rr =>
    cases rr with
    | cons r' rr =>
      cases rr
      cases r
      cases r'
      obtain ⟨its, rv, p1, la⟩ := seqK I1 hqx
      obtain ⟨its2, rv2, p2, lb⟩ := seqK I1 hqy
      refine zip_begins2 (beginsK (k := k1) a its.toArray) (beginsK (k := k2) b its2.toArray) p1 p2 fun h' hz hTI hTO h1 h2 hsz hk => wpAny_pyIter_zip hz ?_
      have I2 : Inv X pins σ H1 { s1 with heap := h' } := I1.kept (t' := s1.toks) hk
      refine ⟨s1.heap.objs.size + 4, [s1.heap.objs.size + 4, s1.heap.objs.size + 2, s1.heap.objs.size + 3, s1.heap.objs.size, s1.heap.objs.size + 1], _, _, H1, rfl, I2, turn_zipK (k1 := k1) (k2 := k2) (PySem.W.ktu_apart s1.heap.objs.size a b la lb), ⟨hz, hTI, ⟨_, _, hTO⟩, iterK_new h1, iterK_new h2⟩, fun c hcm => ?_, q⟩
      have e' : c = s1.heap.objs.size + 4 ∨ c = s1.heap.objs.size + 2 ∨ c = s1.heap.objs.size + 3 ∨ c = s1.heap.objs.size ∨ c = s1.heap.objs.size + 1 := by simpa using hcm
      have hle : s1.heap.objs.size ≤ c := by
        rcases e' with z | z | z | z | z
        · rw [z]; exact Nat.le_add_right _ _
        · rw [z]; exact Nat.le_add_right _ _
        · rw [z]; exact Nat.le_add_right _ _
        · rw [z]; exact Nat.le_refl _
        · rw [z]; exact Nat.le_add_right _ _
      exact I1.fpOk hle (I1.hok.fresh hle)

/-! ### a value, a list or a tuple, walked -/
def iSeq (K : PySem.W.Frag) (tl : TE) : TI := fun σ H R => tl σ H fun x H1 => ∃ a xs, x = .ref a ∧ ((SqL K H1 a xs ∧ R (Itl K a) H1) ∨ (SqT K H1 a xs ∧ R (Itt K a) H1))
theorem pi_seq {X : Cx} {tg l : Expr} {tl : TE} (hl : PE X l tl) : PI X tg l (iSeq X.K tl) := by
  refine ⟨fun pins s σ H R I h => ?_⟩
  refine thn (hl.run pins s σ H _ I h) fun v s1 ⟨x, H1, I1, r1, q1⟩ => ?_
  obtain ⟨a, xs, e, q⟩ := q1
  subst e
  cases r1
  rcases q with ⟨hq, q⟩ | ⟨hq, q⟩
  · obtain ⟨its, rv, p, hz⟩ := I1.list hq
    refine wpAny_pyIter_list p.isList ?_
    refine ⟨s1.heap.objs.size, [s1.heap.objs.size], _, _, H1, rfl, I1.kept (t' := s1.toks) fun b o e => Heap.get?_push_of_some _ e, turn_list a _, ⟨_, Heap.get?_push_size _ rfl, rfl, rfl⟩, fun b hb => ?_, q⟩
    have e : b = s1.heap.objs.size := by simpa using hb
    subst e
    exact I1.fpOk (Nat.le_refl _) (I1.hok.fresh (Nat.le_refl _))
  · obtain ⟨its, rv, p, hz⟩ := I1.tuple hq
    refine wpAny_pyIter_tuple (show s1.heap.IsTuple a its.toArray from p) ?_
    refine ⟨s1.heap.objs.size, [s1.heap.objs.size], _, _, H1, rfl, I1.kept (t' := s1.toks) fun b o e => Heap.get?_push_of_some _ e, turn_tuple a _, ⟨_, Heap.get?_push_size _ rfl, rfl, rfl⟩, fun b hb => ?_, q⟩
    have e : b = s1.heap.objs.size := by simpa using hb
    subst e
    exact I1.fpOk (Nat.le_refl _) (I1.hok.fresh (Nat.le_refl _))

/-- what a value hands out when it is walked, and what must stay meanwhile -/
def walkD (μ : Mu) : D → Option (List D)
  | .lst ds => some ds
  | .tup ds => some ds
  | .own a => match μ a with
    | some (.lst ds) => some ds
    | _ => none
  | _ => none
def chkD (d : D) (ds : List D) : Mu → Prop := match d with
  | .own a => fun μ' => μ' a = some (.lst ds)
  | _ => fun _ => True
/-- the value at a stays these data -/
def Stays (K : PySem.W.Frag) (H : Hp) (μ : Mu) (U : Hid) (k : Bool) (a : Addr) (ds : List D) (chk : Mu → Prop) : Prop := ∀ H' μ' U', Keep H μ U H' μ' U' → ConcM K H' μ' U' → chk μ' → ∃ vs, SqK k K H' a vs ∧ RepL K H' μ' U' vs ds
section
variable {K : PySem.W.Frag} {H : Hp} {μ : Mu} {U : Hid} {d d2 : D} {x y : V} {ds es : List D} {chk chk2 : Mu → Prop} {a b : Addr}
theorem stays_of (r : RepV K H μ U x d) (h : walkD μ d = some ds) : ∃ k a, x = .ref a ∧ Stays K H μ U k a ds (chkD d ds) := by
  cases d with
  | lst zs =>
    cases h
    cases r with
    | lst h n u r => exact ⟨true, _, rfl, fun H' μ' U' k c q => ⟨_, .inl (k.rd (.inl h) n u).1, r.keep k⟩⟩
  | tup zs =>
    cases h
    cases r with
    | tup h n u r => exact ⟨false, _, rfl, fun H' μ' U' k c q => ⟨_, .inl (k.rd (.inl h) n u).1, r.keep k⟩⟩
  | own a =>
    cases r
    refine ⟨true, a, rfl, fun H' μ' U' k c q => ?_⟩
    obtain ⟨_, vs, e, r⟩ := c.ob a _ q
    exact ⟨vs, .inl (.inl e), r⟩
  | _ => cases h
theorem stays_now {k : Bool} (s : Stays K H μ U k a ds (chkD d ds)) (c : ConcM K H μ U) (h : walkD μ d = some ds) : ∃ vs, SqK k K H a vs ∧ RepL K H μ U vs ds := s H μ U (fun _ _ h n u => ⟨h, n, u⟩) c (by
  cases d with
  | own a =>
    show μ a = some (.lst ds)
    cases q : μ a with
    | none => simp only [walkD, q] at h; cases h
    | some u =>
      simp only [walkD, q] at h
      cases u with
      | lst zs => cases h; rfl
      | _ => cases h
  | _ => trivial)
theorem yields_l (s : Stays K H μ U true a ds chk) : Yields K (Itl K a) H μ U ds chk := fun H' μ' U' k c q i => by
  obtain ⟨vs, h, r⟩ := s H' μ' U' k c q
  refine ⟨fun hi => ?_, fun hi => ⟨vs, h, by rw [r.length]; omega⟩⟩
  obtain ⟨v, e1, e2⟩ := r.get (List.getElem?_eq_getElem hi)
  refine ⟨⟨vs, v, h, e1⟩, fun x H'' y => ?_⟩
  obtain ⟨eH, y⟩ := y
  subst eH
  have e3 := y vs h
  rw [e1] at e3
  cases e3
  exact ⟨Step.refl _ _, c, _, List.getElem?_eq_getElem hi, e2⟩
theorem yields_t (s : Stays K H μ U false a ds chk) : Yields K (Itt K a) H μ U ds chk := fun H' μ' U' k c q i => by
  obtain ⟨vs, h, r⟩ := s H' μ' U' k c q
  refine ⟨fun hi => ?_, fun hi => ⟨vs, h, by rw [r.length]; omega⟩⟩
  obtain ⟨v, e1, e2⟩ := r.get (List.getElem?_eq_getElem hi)
  refine ⟨⟨vs, v, h, e1⟩, fun x H'' y => ?_⟩
  obtain ⟨eH, y⟩ := y
  subst eH
  have e3 := y vs h
  rw [e1] at e3
  cases e3
  exact ⟨Step.refl _ _, c, _, List.getElem?_eq_getElem hi, e2⟩
def pairD (x y : D) : D := .tup [x, y]
theorem yields_z {k1 k2 : Bool} (s1 : Stays K H μ U k1 a ds chk) (s2 : Stays K H μ U k2 b es chk2) : Yields K (ItzK k1 k2 K a b) H μ U (List.zipWith pairD ds es) (fun μ' => chk μ' ∧ chk2 μ') := fun H' μ' U' k c q i => by
  obtain ⟨vs, h, r⟩ := s1 H' μ' U' k c q.1
  obtain ⟨ws, g, t⟩ := s2 H' μ' U' k c q.2
  have hl : (List.zipWith pairD ds es).length = min ds.length es.length := List.length_zipWith
  refine ⟨fun hi => ?_, fun hi => ⟨vs, ws, h, g, by rw [r.length]; omega, by rw [t.length]; omega, by rw [r.length, t.length]; omega⟩⟩
  have h1 : i < ds.length := by omega
  have h2 : i < es.length := by omega
  obtain ⟨v, e1, e2⟩ := r.get (List.getElem?_eq_getElem h1)
  obtain ⟨w, f1, f2⟩ := t.get (List.getElem?_eq_getElem h2)
  refine ⟨⟨vs, ws, v, w, h, g, e1, f1⟩, fun x H'' yy => ?_⟩
  obtain ⟨T, x1, y1, ex, hT, eH, y1', y2'⟩ := yy
  subst ex eH
  have e3 := y1' vs h
  rw [e1] at e3
  cases e3
  have e4 := y2' ws g
  rw [f1] at e4
  cases e4
  have st : Step H' μ' (upd H' T (.tup [v, w])) μ' := Step.new hT
  refine ⟨st, c.new hT, pairD ds[i] es[i], ?_, .tup upd_same (c.no hT) (c.nu hT) (.cons (e2.step st) (.cons (f2.step st) .nil))⟩
  rw [List.getElem?_zipWith, List.getElem?_eq_getElem h1, List.getElem?_eq_getElem h2]
def enumD (ds : List D) : List D := ds.zipIdx.map fun p => .tup [.int (p.2 : Nat), p.1]
theorem enumD_get {ds : List D} {i : Nat} {d : D} (h : ds[i]? = some d) : (enumD ds)[i]? = some (.tup [.int (i : Nat), d]) := by
  unfold enumD
  rw [List.getElem?_map, List.getElem?_zipIdx, h]
  simp
theorem enumD_length (ds : List D) : (enumD ds).length = ds.length := by
  unfold enumD
  rw [List.length_map, List.length_zipIdx]
theorem yields_e (s : Stays K H μ U true a ds chk) : Yields K (Ite K a) H μ U (enumD ds) chk := fun H' μ' U' k c q i => by
  obtain ⟨vs, h, r⟩ := s H' μ' U' k c q
  have hl := enumD_length ds
  refine ⟨fun hi => ?_, fun hi => ⟨vs, h, by rw [r.length]; omega⟩⟩
  have h1 : i < ds.length := by omega
  obtain ⟨v, e1, e2⟩ := r.get (List.getElem?_eq_getElem h1)
  refine ⟨⟨vs, v, h, e1⟩, fun x H'' yy => ?_⟩
  obtain ⟨T, x1, ex, hT, eH, y1'⟩ := yy
  subst ex eH
  have e3 := y1' vs h
  rw [e1] at e3
  cases e3
  have st : Step H' μ' (upd H' T (.tup [.int (i : Nat), v])) μ' := Step.new hT
  exact ⟨st, c.new hT, _, enumD_get (List.getElem?_eq_getElem h1), .tup upd_same (c.no hT) (c.nu hT) (.cons (.int _) (.cons (e2.step st) .nil))⟩
def rangeD (lo : Int) (n : Nat) : List D := (List.range n).map fun (i : Nat) => D.int (lo + i)
theorem yields_r (lo : Int) (n : Nat) : Yields K (Itr lo n) H μ U (rangeD lo n) (fun _ => True) := fun H' μ' U' k c q i => by
  have hl : (rangeD lo n).length = n := by unfold rangeD; rw [List.length_map, List.length_range]
  refine ⟨fun hi => ⟨by show i < n; omega, fun x H'' y => ?_⟩, fun hi => by show n ≤ i; omega⟩
  obtain ⟨eH, ex⟩ := y
  subst eH ex
  refine ⟨Step.refl _ _, c, .int (lo + i), ?_, .int _⟩
  unfold rangeD
  rw [List.getElem?_map, List.getElem?_range (by omega)]
  rfl
def rangeCD (lo st : Int) (n : Nat) : List D := (List.range n).map fun (i : Nat) => D.int (lo + i * st)
theorem yields_rc (lo st : Int) (n : Nat) : Yields K (Itc lo st n) H μ U (rangeCD lo st n) (fun _ => True) := fun H' μ' U' k c q i => by
  have hl : (rangeCD lo st n).length = n := by unfold rangeCD; rw [List.length_map, List.length_range]
  refine ⟨fun hi => ⟨by show i < n; omega, fun x H'' y => ?_⟩, fun hi => by show n ≤ i; omega⟩
  obtain ⟨eH, ex⟩ := y
  subst eH ex
  refine ⟨Step.refl _ _, c, .int (lo + i * st), ?_, .int _⟩
  unfold rangeCD
  rw [List.getElem?_map, List.getElem?_range (by omega)]
  rfl
def signsD (x : Str) : List D := x.cps.toList.map fun c => D.str ⟨#[c]⟩
theorem yields_s (x : Str) : Yields K (Its x) H μ U (signsD x) (fun _ => True) := fun H' μ' U' k c q i => by
  have hl : (signsD x).length = x.cps.size := by unfold signsD; rw [List.length_map, Array.length_toList]
  refine ⟨fun hi => ⟨by show i < x.cps.size; omega, fun v H'' y => ?_⟩, fun hi => by show x.cps.size ≤ i; omega⟩
  obtain ⟨eH, c0, h0, ex⟩ := y
  subst eH ex
  refine ⟨Step.refl _ _, c, .str ⟨#[c0]⟩, ?_, .str _⟩
  unfold signsD
  rw [List.getElem?_map, Array.getElem?_toList, h0]
  rfl
end
section
variable {X : Cx} {tg : Expr} {e e2 : Expr} {pos p tpos : Pos} {elts : List Expr} {kk : Nat}
def wSeqI (w : WE) : WI := fun δ μ P => w δ μ fun d μ1 => ∃ ds, walkD μ1 d = some ds ∧ P ds (chkD d ds) μ1
theorem di_seq {w : WE} (h : DE X e w) : DI X tg e (wSeqI w) := weakI (pi_seq h) fun σ H R ⟨U, δ, μ, P, c, ce, w, k⟩ => ⟨U, δ, μ, _, c, ce, w, fun v d H1 μ1 s1 c1 r1 ⟨ds, hw, p⟩ => by
  obtain ⟨b, a, ex, st⟩ := stays_of r1 hw
  obtain ⟨vs, hq, _⟩ := stays_now st c1 hw
  refine ⟨a, vs, ex, ?_⟩
  cases b with
  | true => exact .inl ⟨hq, k _ ds _ H1 μ1 s1 c1 (yields_l st) p⟩
  | false => exact .inr ⟨hq, k _ ds _ H1 μ1 s1 c1 (yields_t st) p⟩⟩
def wZipI (r : WA) : WI := fun δ μ P => r δ μ fun ds μ1 => ∃ d1 d2 xs ys, ds = [d1, d2] ∧ walkD μ1 d1 = some xs ∧ walkD μ1 d2 = some ys ∧ P (List.zipWith pairD xs ys) (fun μ' => chkD d1 xs μ' ∧ chkD d2 ys μ') μ1
theorem di_zip {r : WA} (hg : Gl X "zip") (hm : X.mg "zip" = none) (ha : DA X [e, e2] r) (hs : starEach [e, e2] X.env = (false, eval e X.env) :: starEach [e2] X.env := by rfl) (hpl : (backTo pos (starEach [e2] X.env)).any (·.1) = false := by rfl) :
    DI X (.Tuple elts kk tpos) (.Call (.Name "zip" p) [e, e2] [] pos) (wZipI r) := weakI (pi_zipK hg hm ha hs hpl) fun σ H R ⟨U, δ, μ, P, c, ce, w, k⟩ => ⟨U, δ, μ, _, c, ce, w, fun vs ds H1 μ1 s1 c1 r1 ⟨d1, d2, xs, ys, ed, h1, h2, p⟩ => by
  subst ed
  cases r1 with
  | cons q1 q2 =>
    cases q2 with
    | cons q2 q3 =>
      cases q3
      obtain ⟨k1, a, ex, st⟩ := stays_of q1 h1
      obtain ⟨k2, b, ey, st2⟩ := stays_of q2 h2
      subst ex ey
      obtain ⟨us, hu, _⟩ := stays_now st c1 h1
      obtain ⟨ws, hv, _⟩ := stays_now st2 c1 h2
      exact ⟨k1, k2, a, b, us, ws, rfl, hu, hv, k _ _ _ H1 μ1 s1 c1 (yields_z st st2) p⟩⟩
def walkL (μ : Mu) : D → Option (List D)
  | .lst ds => some ds
  | .own a => match μ a with
    | some (.lst ds) => some ds
    | _ => none
  | _ => none
theorem walkL_D {μ : Mu} {d : D} {ds : List D} (h : walkL μ d = some ds) : walkD μ d = some ds := by
  cases d <;> first | exact h | cases h
theorem staysL_of {K : PySem.W.Frag} {H : Hp} {μ : Mu} {U : Hid} {x : V} {d : D} {ds : List D} (r : RepV K H μ U x d) (h : walkL μ d = some ds) : ∃ a, x = .ref a ∧ Stays K H μ U true a ds (chkD d ds) := by
  cases d with
  | lst zs =>
    cases h
    cases r with
    | lst h n u r => exact ⟨_, rfl, fun H' μ' U' k c q => ⟨_, .inl (k.rd (.inl h) n u).1, r.keep k⟩⟩
  | own a =>
    cases r
    refine ⟨a, rfl, fun H' μ' U' k c q => ?_⟩
    obtain ⟨_, vs, e, r⟩ := c.ob a _ q
    exact ⟨vs, .inl (.inl e), r⟩
  | _ => cases h
def wEnumI (r : WA) : WI := fun δ μ P => r δ μ fun ds μ1 => ∃ d xs, ds = [d] ∧ walkL μ1 d = some xs ∧ P (enumD xs) (chkD d xs) μ1
theorem di_enum {r : WA} (hg : Gl X "enumerate") (hm : X.mg "enumerate" = none) (ha : DA X [e] r) (hs : starEach [e] X.env = [(false, eval e X.env)] := by rfl) :
    DI X (.Tuple elts kk tpos) (.Call (.Name "enumerate" p) [e] [] pos) (wEnumI r) := weakI (pi_enum hg hm ha hs) fun σ H R ⟨U, δ, μ, P, c, ce, w, k⟩ => ⟨U, δ, μ, _, c, ce, w, fun vs ds H1 μ1 s1 c1 r1 ⟨d, xs, ed, h1, p⟩ => by
  subst ed
  cases r1 with
  | cons q1 q2 =>
    cases q2
    obtain ⟨a, ex, st⟩ := staysL_of q1 h1
    subst ex
    obtain ⟨us, hu, _⟩ := stays_now st c1 (walkL_D h1)
    exact ⟨a, us, rfl, hu, k _ _ _ H1 μ1 s1 c1 (yields_e st) p⟩⟩
/-- a number that a range takes -/
def small62 (i : Int) : Prop := -1000000 ≤ i ∧ i ≤ 1000000
theorem small62_lo {i : Int} (h : small62 i) : -(2 ^ 62) ≤ i := by have := h.1; omega
theorem small62_hi {i : Int} (h : small62 i) : i < 2 ^ 62 := by have := h.2; omega
def wRng1 (r : WA) : WI := fun δ μ P => r δ μ fun ds μ1 => ∃ n : Int, ds = [.int n] ∧ small62 n ∧ P (rangeD 0 n.toNat) (fun _ => True) μ1
theorem di_range1 {r : WA} (hg : Gl X "range") (hm : X.mg "range" = none) (ha : DA X [e] r) (hs : starEach [e] X.env = [(false, eval e X.env)] := by rfl) : DI X tg (.Call (.Name "range" p) [e] [] pos) (wRng1 r) :=
  weakI (pi_range1 hg hm ha hs) fun σ H R ⟨U, δ, μ, P, c, ce, w, k⟩ => ⟨U, δ, μ, _, c, ce, w, fun vs ds H1 μ1 s1 c1 r1 ⟨n, ed, hn, p⟩ => by
    subst ed
    cases r1 with
    | cons q1 q2 =>
      cases q2
      cases q1
      exact ⟨n, rfl, small62_lo hn, small62_hi hn, k _ _ _ H1 μ1 s1 c1 (yields_r 0 n.toNat) p⟩⟩
def wRng2 (r : WA) : WI := fun δ μ P => r δ μ fun ds μ1 => ∃ m n : Int, ds = [.int m, .int n] ∧ small62 m ∧ small62 n ∧ P (rangeD m (n - m).toNat) (fun _ => True) μ1
theorem di_range2 {r : WA} (hg : Gl X "range") (hm : X.mg "range" = none) (ha : DA X [e, e2] r) (hs : starEach [e, e2] X.env = [(false, eval e X.env), (false, eval e2 X.env)] := by rfl) (hs2 : starEach [e2] X.env = [(false, eval e2 X.env)] := by rfl) : DI X tg (.Call (.Name "range" p) [e, e2] [] pos) (wRng2 r) :=
  weakI (pi_range2 hg hm ha hs hs2) fun σ H R ⟨U, δ, μ, P, c, ce, w, k⟩ => ⟨U, δ, μ, _, c, ce, w, fun vs ds H1 μ1 s1 c1 r1 ⟨m, n, ed, hm, hn, p⟩ => by
    subst ed
    cases r1 with
    | cons q1 q2 =>
      cases q2 with
      | cons q2 q3 =>
        cases q3
        cases q1
        cases q2
        exact ⟨m, n, rfl, ⟨small62_lo hm, small62_hi hm, small62_lo hn, small62_hi hn⟩, k _ _ _ H1 μ1 s1 c1 (yields_r m (n - m).toNat) p⟩⟩
def wStrI (w : WE) : WI := fun δ μ P => w δ μ fun d μ1 => ∃ x, d = .str x ∧ P (signsD x) (fun _ => True) μ1
theorem di_str {w : WE} (h : DE X e w) : DI X tg e (wStrI w) := weakI (pi_str h) fun σ H R ⟨U, δ, μ, P, c, ce, w, k⟩ => ⟨U, δ, μ, _, c, ce, w, fun v d H1 μ1 s1 c1 r1 ⟨x, ed, p⟩ => by
  subst ed
  cases r1
  exact ⟨x, rfl, k _ _ _ H1 μ1 s1 c1 (yields_s x) p⟩⟩
end
end L3
/-! L3Call -/
/-! L3Call: calls of built-ins, subscripts, slices, methods of lists and texts, attributes, defs, instances, over data. -/
namespace L3
open PySem PySem.Spec PyProof.Rows L2

section
variable {X : Cx} {e e2 o : Expr} {es : List Expr} {pos p apos : Pos} {x : Str}

/-! ### built-ins by name -/
abbrev GN := List D → Mu → (D → Mu → Prop) → Prop
def CallD (K : PySem.W.Frag) (r : List V → Hp → VK → Prop) (g : GN) : Prop := ∀ (U : Hid) (H : Hp) (μ : Mu) (vs : List V) (ds : List D) (P : D → Mu → Prop) (Q : VK), ConcM K H μ U → RepL K H μ U vs ds → g ds μ P →
  Pst K H μ U (fun H' μ' v d => RepV K H' μ' U v d) P Q → r vs H Q
def wCB (g : GN) (r : WA) : WE := fun δ μ P => r δ μ fun ds μ1 => g ds μ1 P
theorem cb_ok {r : List V → Hp → VK → Prop} {g : GN} {wa : WA} (hg : CallD X.K r g) : ∀ σ H Q, liftE X.K (wCB g wa) σ H Q → tCB r (liftA X.K wa) σ H Q := fun σ H Q ⟨U, δ, μ, P, c, ce, w, k⟩ =>
  ⟨U, δ, μ, _, c, ce, w, fun vs ds H1 μ1 s1 c1 r1 p => hg U H1 μ1 vs ds P Q c1 r1 p (k.on s1)⟩
theorem de_callB {id : String} {r : List V → Hp → VK → Prop} {g : GN} {wa : WA} (hc : CallR X (.builtin id) r) (hd : CallD X.K r g) (hg : Gl X x) (hm : X.mg x = none) (hv : bootBuiltins x = some (.builtin id)) (ha : DA X (e :: es) wa) (hn : x ≠ "__name__" := by decide) (hdb : (x == ("__debug__" : Str)) = false := by decide)
    (he : starEach (e :: es) X.env = (false, eval e X.env) :: starEach es X.env := by rfl) (hpl : (backTo pos (starEach es X.env)).any (·.1) = false := by rfl) : DE X (.Call (.Name x p) (e :: es) [] pos) (wCB g wa) := weakE (pe_callB hc hg hm hv ha hn hdb he hpl) (cb_ok hd)
theorem de_callTy {T : String} {r : List V → Hp → VK → Prop} {g : GN} {wa : WA} (hc : CallR X (.type T) r) (hd : CallD X.K r g) (hg : Gl X x) (hm : X.mg x = none) (hv : bootBuiltins x = some (.type T)) (ha : DA X (e :: es) wa) (hn : x ≠ "__name__" := by decide) (hdb : (x == ("__debug__" : Str)) = false := by decide)
    (he : starEach (e :: es) X.env = (false, eval e X.env) :: starEach es X.env := by rfl) (hpl : (backTo pos (starEach es X.env)).any (·.1) = false := by rfl) : DE X (.Call (.Name x p) (e :: es) [] pos) (wCB g wa) := weakE (pe_callTy hc hg hm hv ha hn hdb he hpl) (cb_ok hd)
end
theorem rep1 {K : PySem.W.Frag} {H : Hp} {μ : Mu} {U : Hid} {vs : List V} {d : D} (r : RepL K H μ U vs [d]) : ∃ v, vs = [v] ∧ RepV K H μ U v d := by
  cases r with
  | cons q t => cases t; exact ⟨_, rfl, q⟩
theorem rep2 {K : PySem.W.Frag} {H : Hp} {μ : Mu} {U : Hid} {vs : List V} {d d2 : D} (r : RepL K H μ U vs [d, d2]) : ∃ v w, vs = [v, w] ∧ RepV K H μ U v d ∧ RepV K H μ U w d2 := by
  cases r with
  | cons q t =>
    cases t with
    | cons q2 t => cases t; exact ⟨_, _, rfl, q, q2⟩
section
variable {K : PySem.W.Frag}
/-- len -/
inductive LenD (μ : Mu) : D → Nat → Prop
  | str (s : Str) (h : s.length ≤ lim) : LenD μ (.str s) s.length
  | seq {d : D} {ds : List D} (h : walkD μ d = some ds) : LenD μ d ds.length
def lenD (μ : Mu) : D → Option Nat
  | .str s => if s.length ≤ lim then some s.length else none
  | .lst ds => some ds.length
  | .tup ds => some ds.length
  | .dK g => some g.length
  | .dT g => some g.length
  | .own a => match μ a with
    | some (.lst ds) => some ds.length
    | some (.dK g) => some g.length
    | some (.dT g) => some g.length
    | _ => none
  | _ => none
def gLen : GN := fun ds μ P => ∃ d n, ds = [d] ∧ lenD μ d = some n ∧ P (.int (n : Nat)) μ
theorem keys_len {κ : Type} {fs : List (κ × V)} {gs : List (κ × D)} (e : fs.map (·.1) = gs.map (·.1)) : fs.length = gs.length := by
  have := congrArg List.length e
  rw [List.length_map, List.length_map] at this
  exact this
def rLenAll (K : PySem.W.Frag) : List V → Hp → VK → Prop := fun xs H Q => (∃ x n, xs = [x] ∧ LenV K x H n ∧ Q (.int n) H) ∨ (∃ a kvs, xs = [V.ref a] ∧ H a = some (.dK kvs) ∧ Q (.int kvs.length) H) ∨ rLenT xs H Q
theorem call_lenAll {X : Cx} : CallR X (.builtin "len") (rLenAll X.K) := by
  intro pins s σ H xs us Q I r h
  rcases h with h | h | h
  · exact call_len pins s σ H xs us Q I r h
  · exact call_lenD pins s σ H xs us Q I r h
  · exact call_len_dT pins s σ H xs us Q I r h
theorem cd_len : CallD K (rLenAll K) gLen := by
  intro U H μ vs ds P Q c r ⟨d, n, e, h, p⟩ k
  subst e
  obtain ⟨v, rfl, rv⟩ := rep1 r
  have fin : Q (.int (n : Nat)) H := k _ _ H μ (Step.refl _ _) c (.int _) p
  cases d with
  | str y =>
    cases rv
    by_cases hz : y.length ≤ lim
    · simp only [lenD, if_pos hz] at h
      cases h
      exact .inl ⟨_, _, rfl, ⟨lim_le hz, rfl⟩, fin⟩
    · simp only [lenD, if_neg hz] at h
      cases h
  | lst zs =>
    cases h
    cases rv with
    | lst h1 n1 u1 r1 => exact .inl ⟨_, _, rfl, .inl ⟨_, .inl (.inl h1), r1.length.symm⟩, fin⟩
  | tup zs =>
    cases h
    cases rv with
    | tup h1 n1 u1 r1 => exact .inl ⟨_, _, rfl, .inr ⟨_, .inl (.inl h1), r1.length.symm⟩, fin⟩
  | dK g =>
    cases h
    cases rv with
    | dK h1 n1 u1 e1 r1 => exact .inr (.inl ⟨_, _, rfl, h1, by rw [keys_len e1]; exact fin⟩)
  | dT g =>
    cases h
    cases rv with
    | dT h1 n1 u1 e1 r1 => exact .inr (.inr ⟨_, _, rfl, h1, by rw [keys_len e1]; exact fin⟩)
  | own a =>
    cases rv
    cases q : μ a with
    | none => simp only [lenD, q] at h; cases h
    | some u =>
      simp only [lenD, q] at h
      obtain ⟨_, hr⟩ := c.ob a _ q
      cases u with
      | lst zs =>
        cases h
        obtain ⟨ws, h1, r1⟩ := hr
        exact .inl ⟨_, _, rfl, .inl ⟨_, .inl (.inl h1), r1.length.symm⟩, fin⟩
      | ins C fs => cases h
      | dK g =>
        cases h
        obtain ⟨fs, h1, e1, r1⟩ := hr
        exact .inr (.inl ⟨_, _, rfl, h1, by rw [keys_len e1]; exact fin⟩)
      | dT g =>
        cases h
        obtain ⟨fs, h1, e1, r1⟩ := hr
        exact .inr (.inr ⟨_, _, rfl, h1, by rw [keys_len e1]; exact fin⟩)
  | _ => cases h
/-- a value that is a list or a tuple -/
theorem walk_rd {H : Hp} {μ : Mu} {U : Hid} {x : V} {d : D} {ds : List D} (c : ConcM K H μ U) (r : RepV K H μ U x d) (h : walkD μ d = some ds) : ∃ a vs, x = .ref a ∧ (SqL K H a vs ∨ SqT K H a vs) ∧ RepL K H μ U vs ds := by
  obtain ⟨b, a, rfl, st⟩ := stays_of r h
  obtain ⟨vs, hq, hr⟩ := stays_now st c h
  cases b with
  | true => exact ⟨a, vs, rfl, .inl hq, hr⟩
  | false => exact ⟨a, vs, rfl, .inr hq, hr⟩
/-- tuple(x) of a list or a tuple -/
def gTuple : GN := fun ds μ P => ∃ d xs, ds = [d] ∧ walkD μ d = some xs ∧ P (.tup xs) μ
theorem cd_tuple : CallD K (fun xs H Q => ∃ p ys, xs = [.ref p] ∧ ((SqL K H p ys ∧ ∀ l, H l = none → Q (.ref l) (upd H l (.tup ys))) ∨ (SqT K H p ys ∧ Q (.ref p) H))) gTuple := by
  intro U H μ vs ds P Q c r ⟨d, xs, e, h, p⟩ k
  subst e
  obtain ⟨v, rfl, rv⟩ := rep1 r
  cases d with
  | tup zs =>
    cases h
    have rv' := rv
    cases rv with
    | tup h1 n1 u1 r1 => exact ⟨_, _, rfl, .inr ⟨.inl (.inl h1), k _ _ H μ (Step.refl _ _) c rv' p⟩⟩
  | lst zs =>
    cases h
    cases rv with
    | lst h1 n1 u1 r1 => exact ⟨_, _, rfl, .inl ⟨.inl (.inl h1), fun l hl => (new_tree c k r1 hl).2 p⟩⟩
  | own a =>
    cases rv
    cases q : μ a with
    | none => simp only [walkD, q] at h; cases h
    | some u =>
      simp only [walkD, q] at h
      obtain ⟨_, hr⟩ := c.ob a _ q
      cases u with
      | lst zs =>
        cases h
        obtain ⟨ws, h1, r1⟩ := hr
        exact ⟨_, _, rfl, .inl ⟨.inl (.inl h1), fun l hl => (new_tree c k r1 hl).2 p⟩⟩
      | _ => cases h
  | _ => cases h
/-- list(x) of a list or a tuple: a tree; one that will change -/
def gList : GN := fun ds μ P => ∃ d xs, ds = [d] ∧ walkD μ d = some xs ∧ P (.lst xs) μ
def gListM : GN := fun ds μ P => ∃ d xs, ds = [d] ∧ walkD μ d = some xs ∧ ∀ a, μ a = none → P (.own a) (mset μ a (.lst xs))
theorem cd_list : CallD K (fun xs H Q => ∃ p ys, xs = [.ref p] ∧ (SqL K H p ys ∨ SqT K H p ys) ∧ ∀ l, H l = none → Q (.ref l) (upd H l (.lst ys))) gList := by
  intro U H μ vs ds P Q c r ⟨d, xs, e, h, p⟩ k
  subst e
  obtain ⟨v, rfl, rv⟩ := rep1 r
  obtain ⟨a, ws, rfl, hq, r1⟩ := walk_rd c rv h
  exact ⟨a, ws, rfl, hq, fun l hl => (new_tree c k r1 hl).1 p⟩
theorem cd_listM : CallD K (fun xs H Q => ∃ p ys, xs = [.ref p] ∧ (SqL K H p ys ∨ SqT K H p ys) ∧ ∀ l, H l = none → Q (.ref l) (upd H l (.lst ys))) gListM := by
  intro U H μ vs ds P Q c r ⟨d, xs, e, h, p⟩ k
  subst e
  obtain ⟨v, rfl, rv⟩ := rep1 r
  obtain ⟨a, ws, rfl, hq, r1⟩ := walk_rd c rv h
  exact ⟨a, ws, rfl, hq, fun l hl => new_mut c k r1 hl (p l (c.no hl))⟩
/-- sum, all, any over a list -/
def gSum : GN := fun ds μ P => ∃ (d : D) (ns : List Int), ds = [d] ∧ walkL μ d = some (ns.map D.int) ∧ P (.int ns.sum) μ
def gAll : GN := fun ds μ P => ∃ (d : D) (bs : List Bool), ds = [d] ∧ walkL μ d = some (bs.map D.bl) ∧ P (.bl (bs.all id)) μ
def gAny : GN := fun ds μ P => ∃ (d : D) (bs : List Bool), ds = [d] ∧ walkL μ d = some (bs.map D.bl) ∧ P (.bl (bs.any id)) μ
theorem walkL_rd {H : Hp} {μ : Mu} {U : Hid} {x : V} {d : D} {ds : List D} (c : ConcM K H μ U) (r : RepV K H μ U x d) (h : walkL μ d = some ds) : ∃ a vs, x = .ref a ∧ SqL K H a vs ∧ RepL K H μ U vs ds := by
  obtain ⟨a, rfl, st⟩ := staysL_of r h
  obtain ⟨vs, hq, hr⟩ := stays_now st c (walkL_D h)
  exact ⟨a, vs, rfl, hq, hr⟩
theorem cd_sum : CallD K (rSum K) gSum := by
  intro U H μ vs ds P Q c r ⟨d, ns, e, h, p⟩ k
  subst e
  obtain ⟨v, rfl, rv⟩ := rep1 r
  obtain ⟨a, ws, rfl, hq, r1⟩ := walkL_rd c rv h
  cases r1.ints
  exact ⟨a, ns, rfl, hq, k _ _ H μ (Step.refl _ _) c (.int _) p⟩
theorem cd_all : CallD K (rAll K) gAll := by
  intro U H μ vs ds P Q c r ⟨d, ns, e, h, p⟩ k
  subst e
  obtain ⟨v, rfl, rv⟩ := rep1 r
  obtain ⟨a, ws, rfl, hq, r1⟩ := walkL_rd c rv h
  cases r1.bls
  exact ⟨a, ns, rfl, hq, k _ _ H μ (Step.refl _ _) c (.bl _) p⟩
theorem cd_any : CallD K (rAny K) gAny := by
  intro U H μ vs ds P Q c r ⟨d, ns, e, h, p⟩ k
  subst e
  obtain ⟨v, rfl, rv⟩ := rep1 r
  obtain ⟨a, ws, rfl, hq, r1⟩ := walkL_rd c rv h
  cases r1.bls
  exact ⟨a, ns, rfl, hq, k _ _ H μ (Step.refl _ _) c (.bl _) p⟩
/-- max of a list of ints: one of them, none is greater -/
def gMax : GN := fun ds μ P => ∃ (d : D) (ns : List Int), ds = [d] ∧ walkL μ d = some (ns.map D.int) ∧ 0 < ns.length ∧ ∀ m, m ∈ ns → (∀ y, y ∈ ns → y ≤ m) → P (.int m) μ
def gMin : GN := fun ds μ P => ∃ (d : D) (ns : List Int), ds = [d] ∧ walkL μ d = some (ns.map D.int) ∧ 0 < ns.length ∧ ∀ m, m ∈ ns → (∀ y, y ∈ ns → m ≤ y) → P (.int m) μ
theorem cd_max : CallD K (rMax K) gMax := by
  intro U H μ vs ds P Q c r ⟨d, ns, e, h, z, p⟩ k
  subst e
  obtain ⟨v, rfl, rv⟩ := rep1 r
  obtain ⟨a, ws, rfl, hq, r1⟩ := walkL_rd c rv h
  cases r1.ints
  exact ⟨a, ns, rfl, hq, z, fun m h1 h2 => k _ _ H μ (Step.refl _ _) c (.int _) (p m h1 h2)⟩
theorem cd_min : CallD K (rMin K) gMin := by
  intro U H μ vs ds P Q c r ⟨d, ns, e, h, z, p⟩ k
  subst e
  obtain ⟨v, rfl, rv⟩ := rep1 r
  obtain ⟨a, ws, rfl, hq, r1⟩ := walkL_rd c rv h
  cases r1.ints
  exact ⟨a, ns, rfl, hq, z, fun m h1 h2 => k _ _ H μ (Step.refl _ _) c (.int _) (p m h1 h2)⟩
/-- abs, min and max of two, int(i), str(i) -/
def gAbs : GN := fun ds μ P => ∃ i, ds = [.int i] ∧ P (.int (if i < 0 then -i else i)) μ
theorem cd_abs : CallD K (fun xs H Q => ∃ i, xs = [.int i] ∧ Q (.int (if i < 0 then -i else i)) H) gAbs := by
  intro U H μ vs ds P Q c r ⟨i, e, p⟩ k
  subst e
  obtain ⟨v, rfl, rv⟩ := rep1 r
  cases rv
  exact ⟨i, rfl, k _ _ H μ (Step.refl _ _) c (.int _) p⟩
def gMin2 : GN := fun ds μ P => ∃ i j, ds = [.int i, .int j] ∧ P (.int (if j < i then j else i)) μ
theorem cd_min2 : CallD K (fun xs H Q => ∃ i j, xs = [.int i, .int j] ∧ Q (.int (if j < i then j else i)) H) gMin2 := by
  intro U H μ vs ds P Q c r ⟨i, j, e, p⟩ k
  subst e
  obtain ⟨v, w, rfl, rv, rw'⟩ := rep2 r
  cases rv
  cases rw'
  exact ⟨i, j, rfl, k _ _ H μ (Step.refl _ _) c (.int _) p⟩
def gMax2 : GN := fun ds μ P => ∃ i j, ds = [.int i, .int j] ∧ P (.int (if j > i then j else i)) μ
theorem cd_max2 : CallD K (fun xs H Q => ∃ i j, xs = [.int i, .int j] ∧ Q (.int (if j > i then j else i)) H) gMax2 := by
  intro U H μ vs ds P Q c r ⟨i, j, e, p⟩ k
  subst e
  obtain ⟨v, w, rfl, rv, rw'⟩ := rep2 r
  cases rv
  cases rw'
  exact ⟨i, j, rfl, k _ _ H μ (Step.refl _ _) c (.int _) p⟩
def gInt1 : GN := fun ds μ P => ∃ i, ds = [.int i] ∧ P (.int i) μ
theorem cd_int1 : CallD K (fun xs H Q => (∃ i, xs = [.int i] ∧ Q (.int i) H) ∨ ∃ b, xs = [.bl b] ∧ Q (.int (if b then 1 else 0)) H) gInt1 := by
  intro U H μ vs ds P Q c r ⟨i, e, p⟩ k
  subst e
  obtain ⟨v, rfl, rv⟩ := rep1 r
  cases rv
  exact .inl ⟨i, rfl, k _ _ H μ (Step.refl _ _) c (.int _) p⟩
def gStrI : GN := fun ds μ P => ∃ i : Int, ds = [.int i] ∧ i.natAbs.log2 < 1920 ∧ P (.str (toString i)) μ
theorem cd_strI : CallD K (fun xs H Q => ∃ i : Int, xs = [.int i] ∧ i.natAbs.log2 < 1920 ∧ Q (.str (toString i)) H) gStrI := by
  intro U H μ vs ds P Q c r ⟨i, e, z, p⟩ k
  subst e
  obtain ⟨v, rfl, rv⟩ := rep1 r
  cases rv
  exact ⟨i, rfl, z, k _ _ H μ (Step.refl _ _) c (.str _) p⟩

/-! ### subscripts -/
def itemD (μ : Mu) (d : D) (i : Int) : Option D := match d with
  | .lst ds => atI ds i
  | .tup ds => atI ds i
  | .str s => if s.length ≤ lim then (atI s.cps.toList i).map (fun c => D.str ⟨#[c]⟩) else none
  | .own a => match μ a with
    | some (.lst ds) => atI ds i
    | _ => none
  | _ => none
def gIx : G2 := fun d1 d2 μ P => ∃ i x, d2 = .int i ∧ itemD μ d1 i = some x ∧ P x μ
theorem atI_rep {H : Hp} {μ : Mu} {U : Hid} {vs : List V} {ds : List D} {i : Int} {x : D} (r : RepL K H μ U vs ds) (h : atI ds i = some x) : ∃ v, atI vs i = some v ∧ RepV K H μ U v x := by
  unfold atI at h ⊢
  rw [r.length]
  cases e : ixN ds.length i with
  | none => rw [e] at h; cases h
  | some j =>
    rw [e] at h
    obtain ⟨v, h1, h2⟩ := r.get (show ds[j]? = some x from h)
    exact ⟨v, h1, h2⟩
theorem od_ix : OpD K (rIx K) gIx := by
  intro U H μ x y d1 d2 P Q c r1 r2 ⟨i, z, e, h, p⟩ k
  subst e
  cases r2
  cases d1 with
  | lst ds =>
    cases r1 with
    | lst h1 n1 u1 r =>
      obtain ⟨v, a1, a2⟩ := atI_rep r h
      exact .inl ⟨_, _, i, v, rfl, rfl, .inl (.inl h1), a1, k _ _ H μ (Step.refl _ _) c a2 p⟩
  | tup ds =>
    cases r1 with
    | tup h1 n1 u1 r =>
      obtain ⟨v, a1, a2⟩ := atI_rep r h
      exact .inr (.inl ⟨_, _, i, v, rfl, rfl, .inl (.inl h1), a1, k _ _ H μ (Step.refl _ _) c a2 p⟩)
  | str s =>
    cases r1
    by_cases hz : s.length ≤ lim
    · simp only [itemD, hz, if_true] at h
      cases e : atI s.cps.toList i with
      | none => rw [e] at h; cases h
      | some q =>
        rw [e] at h
        cases h
        exact .inr (.inr ⟨s, i, q, rfl, rfl, lim_le hz, e, k _ _ H μ (Step.refl _ _) c (.str _) p⟩)
    · simp only [itemD, hz, if_false] at h
      cases h
  | own a =>
    cases r1
    cases q : μ a with
    | none => simp only [itemD, q] at h; cases h
    | some u =>
      simp only [itemD, q] at h
      cases u with
      | lst ds =>
        obtain ⟨_, ws, h1, r⟩ := c.ob a _ q
        obtain ⟨v, a1, a2⟩ := atI_rep r h
        exact .inl ⟨_, _, i, v, rfl, rfl, .inl (.inl h1), a1, k _ _ H μ (Step.refl _ _) c a2 p⟩
      | _ => cases h
  | _ => cases h
end
section
variable {X : Cx} {a b e o : Expr} {pos p2 : Pos} {lo hi : Option Expr}
theorem de_ix {wa wb : WE} (ha : DE X a wa) (hb : DE X b wb) (hs : PlainIx b := by exact fun _ _ => rfl) : DE X (.Subscript a b pos) (wOp gIx wa wb) := weakE (pe_ix ix_seq ha hb hs) (op_two od_ix)

/-! ### slices -/
abbrev WO := De → Mu → (Option Int → Mu → Prop) → Prop
def liftO (K : PySem.W.Frag) (w : WO) : TO := fun σ H Q => ∃ U δ μ P, ConcM K H μ U ∧ ConcE K H μ U σ δ ∧ w δ μ P ∧ Pst K H μ U (fun _ _ (b : Option Int) c => b = c) P Q
abbrev DO (X : Cx) (e : Option Expr) (w : WO) : Prop := PO X e (liftO X.K w)
def wNoPart : WO := fun _ μ P => P none μ
def wPart (w : WE) : WO := fun δ μ P => w δ μ fun d μ1 => ∃ i, d = .int i ∧ P (some i) μ1
theorem do_none : DO X none wNoPart := ⟨fun pins s σ H Q I ⟨U, δ, μ, P, c, ce, w, k⟩ => po_none.run pins s σ H Q I (k none none H μ (Step.refl _ _) c rfl w)⟩
theorem do_some {w : WE} (h : DE X e w) : DO X (some e) (wPart w) := ⟨fun pins s σ H Q I ⟨U, δ, μ, P, c, ce, w, k⟩ => (po_some h).run pins s σ H Q I ⟨U, δ, μ, _, c, ce, w, fun v d H1 μ1 s1 c1 r1 ⟨i, e, p⟩ => by
  subst e
  cases r1
  exact ⟨i, rfl, k _ _ H1 μ1 s1 c1 rfl p⟩⟩⟩
def cutD {α : Type} (xs : List α) (lo hi : Option Int) : List α := (xs.drop (HT.sIx xs.length 0 lo)).take (HT.sIx xs.length xs.length hi - HT.sIx xs.length 0 lo)
def sliceD (μ : Mu) (lo hi : Option Int) : D → Option D
  | .lst ds => some (.lst (cutD ds lo hi))
  | .fz ds => some (.lst (cutD ds lo hi))
  | .own a => match μ a with
    | some (.lst ds) => some (.lst (cutD ds lo hi))
    | _ => none
  | _ => none
def wSl (w : WE) (wl wh : WO) : WE := fun δ μ P => w δ μ fun d μ1 => wl δ μ1 fun l μ2 => wh δ μ2 fun h μ3 => ∃ x, sliceD μ3 l h d = some x ∧ P x μ3
theorem cut_rep {K : PySem.W.Frag} {H : Hp} {μ : Mu} {U : Hid} {vs : List V} {ds : List D} (r : RepL K H μ U vs ds) (lo hi : Option Int) : RepL K H μ U (cutV vs lo hi) (cutD ds lo hi) := by
  unfold cutV cutD
  rw [r.length]
  exact (r.drop _).take _
theorem de_slice {w : WE} {wl wh : WO} (he : DE X e w) (hl : DO X lo wl) (hh : DO X hi wh) : DE X (.Subscript e (.Slice lo hi none p2) pos) (wSl w wl wh) :=
  weakE (pe_slice sl_list he hl hh) fun σ H Q ⟨U, δ, μ, P, c, ce, w, k⟩ => ⟨U, δ, μ, _, c, ce, w, fun x d H1 μ1 s1 c1 r1 p1 => ⟨U, δ, μ1, _, c1, ce.step s1, p1, fun l l' H2 μ2 s2 c2 el p2 => by
    subst el
    refine ⟨U, δ, μ2, _, c2, (ce.step s1).step s2, p2, fun h h' H3 μ3 s3 c3 eh ⟨z, hz, p3⟩ => ?_⟩
    subst eh
    have r3 := (r1.step s2).step s3
    have k3 := k.on ((s1.trans s2).trans s3)
    cases d with
    | lst ds =>
      cases hz
      cases r3 with
      | lst h1 n1 u1 r => exact ⟨_, _, rfl, .inl (.inl h1), fun q hq => (new_tree c3 k3 (cut_rep r l h) hq).1 p3⟩
    | fz ds =>
      cases hz
      cases r3 with
      | fz h1 r => exact ⟨_, _, rfl, h1.imp (·.1) id, fun q hq => (new_tree c3 k3 (cut_rep r l h) hq).1 p3⟩
    | own a =>
      cases r3
      cases q : μ3 a with
      | none => simp only [sliceD, q] at hz; cases hz
      | some u =>
        simp only [sliceD, q] at hz
        cases u with
        | lst ds =>
          cases hz
          obtain ⟨_, ws, h1, r⟩ := c3.ob a _ q
          exact ⟨_, _, rfl, .inl (.inl h1), fun q hq => (new_tree c3 k3 (cut_rep r l h) hq).1 p3⟩
        | _ => cases hz
    | _ => cases hz⟩⟩

/-! ### methods of lists and texts -/
def tyD (T : String) (μ : Mu) : D → Prop
  | .lst _ => T = "list"
  | .str _ => T = "str"
  | .own a => match μ a with
    | some (.lst _) => T = "list"
    | some (.dK _) => T = "dict"
    | some (.dT _) => T = "dict"
    | _ => False
  | .dK _ => T = "dict"
  | .dT _ => T = "dict"
  | _ => False
theorem tyD_V {K : PySem.W.Frag} {H : Hp} {μ : Mu} {U : Hid} {x : V} {d : D} {T : String} (c : ConcM K H μ U) (r : RepV K H μ U x d) (t : tyD T μ d) : tyV K T x H := by
  cases d with
  | lst ds =>
    cases r with
    | lst h1 n1 u1 r => exact .inl ⟨t, _, .inl (.inl h1)⟩
  | str s => cases r; exact t
  | dK g =>
    cases r with
    | dK h1 n1 u1 e1 r => exact .inr (.inr (.inl ⟨t, .inl ⟨_, h1⟩⟩))
  | dT g =>
    cases r with
    | dT h1 n1 u1 e1 r => exact .inr (.inr (.inl ⟨t, .inr ⟨_, h1⟩⟩))
  | own a =>
    cases r
    cases q : μ a with
    | none => simp only [tyD, q] at t
    | some u =>
      simp only [tyD, q] at t
      obtain ⟨_, hr⟩ := c.ob a _ q
      cases u with
      | lst ds => obtain ⟨ws, h1, r⟩ := hr; exact .inl ⟨t, _, .inl (.inl h1)⟩
      | dK g => obtain ⟨fs, h1, _⟩ := hr; exact .inr (.inr (.inl ⟨t, .inl ⟨_, h1⟩⟩))
      | dT g => obtain ⟨fs, h1, _⟩ := hr; exact .inr (.inr (.inl ⟨t, .inr ⟨_, h1⟩⟩))
      | ins C fs => exact t.elim
  | _ => exact t.elim
abbrev GM := D → List D → Mu → (D → Mu → Prop) → Prop
def MtD (K : PySem.W.Frag) (r : V → List V → Hp → VK → Prop) (g : GM) : Prop := ∀ (U : Hid) (H : Hp) (μ : Mu) (x : V) (d : D) (vs : List V) (ds : List D) (P : D → Mu → Prop) (Q : VK), ConcM K H μ U → RepV K H μ U x d → RepL K H μ U vs ds → g d ds μ P →
  Pst K H μ U (fun H' μ' v d => RepV K H' μ' U v d) P Q → r x vs H Q
def wBM (T : String) (g : GM) (w : WE) (r : WA) : WE := fun δ μ P => w δ μ fun d μ1 => tyD T μ1 d ∧ r δ μ1 fun ds μ2 => g d ds μ2 P
variable {T id : String} {name : Str} {r : V → List V → Hp → VK → Prop} {g : GM} {es : List Expr} {apos cpos : Pos}
theorem bm_ok {w : WE} {wa : WA} (hg : MtD X.K r g) : ∀ σ H Q, liftE X.K (wBM T g w wa) σ H Q → tBM X.K T r (liftE X.K w) (liftA X.K wa) σ H Q := fun σ H Q ⟨U, δ, μ, P, c, ce, w, k⟩ =>
  ⟨U, δ, μ, _, c, ce, w, fun x d H1 μ1 s1 c1 r1 ⟨t, p1⟩ => ⟨tyD_V c1 r1 t, U, δ, μ1, _, c1, ce.step s1, p1, fun vs ds H2 μ2 s2 c2 r2 p2 => hg U H2 μ2 x d vs ds P Q c2 (r1.step s2) r2 p2 (k.on (s1.trans s2))⟩⟩
theorem de_bm (pa : PlainAttrs T) (slot : Slot T name id) (hty : typeOf (.builtin id) = pure (.type "method_descriptor")) (hm : MtR X id r) (hd : MtD X.K r g) {w : WE} {wa : WA} (ho : DE X o w) (ha : DA X (e :: es) wa)
    (hbase : attributeBase o name X.env (eval o X.env) = eval o X.env := by rfl)
    (hfew : ((backTo cpos (starEach (e :: es) X.env)).all (fun x => !x.1) && (backToKw cpos (keywordEach [] X.env)).all (fun x => x.1.isSome)
      && decide ((e :: es).length + ([] : List Keyword).length + (if ([] : List Keyword).isEmpty then 0 else 1) < 30)) = true := by rfl)
    (hline : (apos.endLine == cpos.line) = true := by rfl) (hs : starEach (e :: es) X.env = (false, eval e X.env) :: starEach es X.env := by rfl) (hplain : (backTo cpos (starEach es X.env)).any (·.1) = false := by rfl) :
    DE X (.Call (.Attribute o name apos) (e :: es) [] cpos) (wBM T g w wa) := weakE (pe_bm pa slot hty hm ho ha hbase hfew hline hs hplain) (bm_ok hd)
theorem de_bm0 (pa : PlainAttrs T) (slot : Slot T name id) (hty : typeOf (.builtin id) = pure (.type "method_descriptor")) (hm : MtR X id r) (hd : MtD X.K r g) {w : WE} (ho : DE X o w)
    (hbase : attributeBase o name X.env (eval o X.env) = eval o X.env := by rfl) (hline : (apos.endLine == cpos.line) = true := by rfl) :
    DE X (.Call (.Attribute o name apos) [] [] cpos) (wBM T g w wNil) := weakE (pe_bm0 pa slot hty hm ho hbase hline) fun σ H Q ⟨U, δ, μ, P, c, ce, w, k⟩ =>
  ⟨U, δ, μ, _, c, ce, w, fun x d H1 μ1 s1 c1 r1 ⟨t, p1⟩ => ⟨tyD_V c1 r1 t, hd U H1 μ1 x d [] [] P Q c1 r1 .nil p1 (k.on s1)⟩⟩
end
section
variable {K : PySem.W.Frag}
/-- a changing list -/
theorem own_list {H : Hp} {μ : Mu} {U : Hid} {a : Addr} {ds : List D} (c : ConcM K H μ U) (e : μ a = some (.lst ds)) : ∃ vs, H a = some (.lst vs) ∧ RepL K H μ U vs ds := (c.ob a _ e).2
/-- it is written -/
theorem write_list {H : Hp} {μ : Mu} {U : Hid} {a : Addr} {ds es : List D} {ws : List V} {d : D} {v : V} {P : D → Mu → Prop} {Q : VK} (c : ConcM K H μ U) (e : μ a = some (.lst ds)) (r : RepL K H μ U ws es) (rv : RepV K H μ U v d)
    (k : Pst K H μ U (fun H' μ' v d => RepV K H' μ' U v d) P Q) (p : P d (mset μ a (.lst es))) : Q v (upd H a (.lst ws)) :=
  k _ _ _ _ (Step.write e) (c.write (u := .lst es) e ⟨ws, upd_same, r.step (Step.write e)⟩) (rv.step (Step.write e)) p
def gApp : GM := fun d ds μ P => ∃ a xs x, d = .own a ∧ ds = [x] ∧ μ a = some (.lst xs) ∧ xs.length ≤ lim ∧ P .non (mset μ a (.lst (xs ++ [x])))
theorem md_append : MtD K rAppend gApp := by
  intro U H μ x d vs ds P Q c r rs ⟨a, xs, y, e1, e2, h, z, p⟩ k
  subst e1 e2
  cases r
  obtain ⟨v, rfl, rv⟩ := rep1 rs
  obtain ⟨ws, h1, r1⟩ := own_list c h
  exact ⟨a, ws, v, rfl, rfl, h1, by rw [r1.length]; exact lim_lt z, write_list c h (r1.snoc rv) .non k p⟩
def gPopAt : GM := fun d ds μ P => ∃ a xs i x, d = .own a ∧ ds = [.int (i : Nat)] ∧ μ a = some (.lst xs) ∧ xs.length ≤ lim ∧ xs[i]? = some x ∧ P x (mset μ a (.lst (xs.eraseIdx i)))
theorem md_popAt : MtD K rPopAt gPopAt := by
  intro U H μ x d vs ds P Q c r rs ⟨a, xs, i, y, e1, e2, h, z, hx, p⟩ k
  subst e1 e2
  cases r
  obtain ⟨v, rfl, rv⟩ := rep1 rs
  cases rv
  obtain ⟨ws, h1, r1⟩ := own_list c h
  obtain ⟨w, hw, rw'⟩ := r1.get hx
  have hi : i < ws.length := (List.getElem?_eq_some_iff.mp hw).1
  have hl := r1.length
  have hz : xs.length ≤ 100000 := z
  exact ⟨a, ws, i, i, w, rfl, rfl, h1, by omega, by omega, PySem.StrLaws.seqIndex_nonneg (by omega) (by omega), hw, write_list c h (r1.erase i) rw' k p⟩
def gClear : GM := fun d ds μ P => ∃ a xs, d = .own a ∧ ds = [] ∧ μ a = some (.lst xs) ∧ P .non (mset μ a (.lst []))
theorem md_clear : MtD K rClear gClear := by
  intro U H μ x d vs ds P Q c r rs ⟨a, xs, e1, e2, h, p⟩ k
  subst e1 e2
  cases r
  cases rs
  obtain ⟨ws, h1, r1⟩ := own_list c h
  exact ⟨a, ws, rfl, rfl, h1, write_list c h .nil .non k p⟩
/-- sep.join(texts) -/
def gJoin : GM := fun d ds μ P => ∃ (a : Str) (e : D) (ys : List Str), d = .str a ∧ ds = [e] ∧ walkD μ e = some (ys.map D.str) ∧ (ys.map (·.length)).sum + ys.length * a.length ≤ 16777216 ∧ P (.str (Txt.join a ys)) μ
theorem md_join : MtD K (fun x xs H Q => ∃ a p, ∃ ys : List Str, x = .str a ∧ xs = [.ref p] ∧ (SqL K H p (ys.map V.str) ∨ SqT K H p (ys.map V.str)) ∧ (ys.map (·.length)).sum + ys.length * a.length ≤ 16777216 ∧ Q (.str (Txt.join a ys)) H) gJoin := by
  intro U H μ x d vs ds P Q c r rs ⟨a, e, ys, e1, e2, h, z, p⟩ k
  subst e1 e2
  cases r
  obtain ⟨v, rfl, rv⟩ := rep1 rs
  obtain ⟨b, ws, rfl, hq, r1⟩ := walk_rd c rv h
  cases r1.strs
  exact ⟨a, b, ys, rfl, rfl, hq, z, k _ _ H μ (Step.refl _ _) c (.str _) p⟩
end
end L3
/-! L3Obj -/
/-! L3Obj: attributes, stores, calls of defs and methods, new instances, over data; the rule for a def. -/
namespace L3
open PySem PySem.Spec PyProof.Rows L2

/-! ### attributes -/
def insD (μ : Mu) : D → Option (Addr × List (Str × D))
  | .ins C gs => some (C, gs)
  | .own a => match μ a with
    | some (.ins C gs) => some (C, gs)
    | _ => none
  | _ => none
section
variable {K : PySem.W.Frag} {H : Hp} {μ : Mu} {U : Hid} {x : V} {d : D}
theorem insD_rd {C : Addr} {gs : List (Str × D)} (c : ConcM K H μ U) (r : RepV K H μ U x d) (h : insD μ d = some (C, gs)) :
    ∃ a dx fs, x = .ref a ∧ H a = some (.ins C dx fs) ∧ fs.map (·.1) = gs.map (·.1) ∧ RepL K H μ U (fs.map (·.2)) (gs.map (·.2)) := by
  cases d with
  | ins C' g =>
    cases h
    cases r with
    | ins h n u e r => exact ⟨_, _, _, rfl, h, e, r⟩
  | own a =>
    cases r
    cases q : μ a with
    | none => simp only [insD, q] at h; cases h
    | some u =>
      simp only [insD, q] at h
      cases u with
      | ins C' g =>
        cases h
        obtain ⟨_, dx, fs, h1, e, r⟩ := c.ob a _ q
        exact ⟨a, dx, fs, rfl, h1, e, r⟩
      | _ => cases h
  | _ => cases h
theorem lookup_rep {f : Str} : ∀ {fs : List (Str × V)} {gs : List (Str × D)}, fs.map (·.1) = gs.map (·.1) → RepL K H μ U (fs.map (·.2)) (gs.map (·.2)) →
    (∀ z, gs.lookup f = some z → ∃ v, fs.lookup f = some v ∧ RepV K H μ U v z) ∧ (gs.lookup f = none → fs.lookup f = none)
  | [], [], _, _ => ⟨fun z h => (by cases h), fun _ => rfl⟩
  | [], _ :: _, e, _ => by cases e
  | _ :: _, [], e, _ => by cases e
  | (k, v) :: fs, (k', z) :: gs, e, r => by
    rw [List.map_cons, List.map_cons] at e r
    obtain ⟨ek, er⟩ := List.cons.inj e
    have ek : k = k' := ek
    subst ek
    cases r with
    | cons r1 r2 =>
      obtain ⟨i1, i2⟩ := lookup_rep (f := f) er r2
      by_cases hb : (f == k) = true
      · refine ⟨fun z' h => ?_, fun h => ?_⟩
        · simp only [List.lookup, hb] at h ⊢
          cases h
          exact ⟨v, rfl, r1⟩
        · simp only [List.lookup, hb] at h
          cases h
      · have hb : (f == k) = false := by simpa using hb
        refine ⟨fun z' h => ?_, fun h => ?_⟩
        · simp only [List.lookup, hb] at h ⊢
          exact i1 z' h
        · simp only [List.lookup, hb] at h ⊢
          exact i2 h
def putD (f : Str) (v : D) : List (Str × D) → List (Str × D)
  | [] => [(f, v)]
  | (g, x) :: r => if g = f then (g, v) :: r else (g, x) :: putD f v r
theorem put_rep {f : Str} {v : V} {z : D} (rv : RepV K H μ U v z) : ∀ {fs : List (Str × V)} {gs : List (Str × D)}, fs.map (·.1) = gs.map (·.1) → RepL K H μ U (fs.map (·.2)) (gs.map (·.2)) →
    (putF f v fs).map (·.1) = (putD f z gs).map (·.1) ∧ RepL K H μ U ((putF f v fs).map (·.2)) ((putD f z gs).map (·.2))
  | [], [], _, _ => ⟨rfl, .cons rv .nil⟩
  | [], _ :: _, e, _ => by cases e
  | _ :: _, [], e, _ => by cases e
  | (k, v') :: fs, (k', z') :: gs, e, r => by
    rw [List.map_cons, List.map_cons] at e r
    obtain ⟨ek, er⟩ := List.cons.inj e
    have ek : k = k' := ek
    subst ek
    cases r with
    | cons r1 r2 =>
      obtain ⟨i1, i2⟩ := put_rep rv er r2
      unfold putF putD
      by_cases hk : k = f
      · rw [if_pos hk, if_pos hk]
        exact ⟨congrArg (List.cons k) er, .cons rv r2⟩
      · rw [if_neg hk, if_neg hk]
        exact ⟨congrArg (List.cons k) i1, .cons r1 i2⟩
end
section
variable {X : Cx} {e o value : Expr} {f : Str} {pos pos' p apos : Pos} {C : Addr}
def wFld (C : Addr) (f : Str) (w : WE) : WE := fun δ μ P => w δ μ fun d μ1 => ∃ gs x, insD μ1 d = some (C, gs) ∧ gs.lookup f = some x ∧ P x μ1
theorem de_fld {w : WE} (he : DE X e w) (cl : Cls X.K C) (na : NoAttr X.K C f) (hb : attributeBase e f X.env (eval e X.env) = eval e X.env := by rfl) : DE X (.Attribute e f pos) (wFld C f w) :=
  weakE (pe_fld he hb) fun σ H Q ⟨U, δ, μ, P, c, ce, w, k⟩ => ⟨U, δ, μ, _, c, ce, w, fun v d H1 μ1 s1 c1 r1 ⟨gs, x, hi, hl, p⟩ => by
    obtain ⟨a, dx, fs, rfl, h1, ek, er⟩ := insD_rd c1 r1 hi
    obtain ⟨v, hv, rv⟩ := (lookup_rep ek er).1 x hl
    exact ⟨a, C, dx, fs, v, rfl, h1, cl, na, hv, k _ _ H1 μ1 s1 c1 rv p⟩⟩
/-- o.f = value, o a changing instance -/
def wSetF (C : Addr) (f : Str) (wo wv : WE) : WS := fun F δ μ => wv δ μ fun z μ1 => wo δ μ1 fun d μ2 => ∃ a gs, d = .own a ∧ μ2 a = some (.ins C gs) ∧ gs.length ≤ 100 ∧ F.nx δ (mset μ2 a (.ins C (putD f z gs)))
theorem ds_fld {wo wv : WE} (ho : DE X o wo) (hv : DE X value wv) (cl : Cls X.K C) (na : NoAttr X.K C f) (hs : swapsWith value (some (.Attribute o f pos')) pos.line X.env = pure false := by rfl) : DS X (.Assign [.Attribute o f pos'] value pos) (wSetF C f wo wv) :=
  weakS (ps_fld ho hv hs) fun E σ H ⟨U, δ, μ, F, c, e, w, k⟩ => ⟨U, δ, μ, _, c, e, w, fun v z H1 μ1 s1 c1 r1 p1 => ⟨U, δ, μ1, _, c1, e.step s1, p1, fun x d H2 μ2 s2 c2 r2 ⟨a, gs, ed, hm, hl, p2⟩ => by
    subst ed
    cases r2
    obtain ⟨_, dx, fs, h1, ek, er⟩ := c2.ob a _ hm
    have hlen : fs.length = gs.length := keys_len ek
    refine ⟨a, C, dx, fs, rfl, h1, cl, na, by omega, ?_⟩
    obtain ⟨q1, q2⟩ := put_rep (f := f) (r1.step s2) ek er
    have st : Step H2 μ2 (upd H2 a (.ins C dx (putF f v fs))) (mset μ2 a (.ins C (putD f z gs))) := Step.write hm
    exact k.nx σ δ _ _ ((s1.trans s2).trans st) (c2.write (u := .ins C (putD f z gs)) hm ⟨dx, _, upd_same, q1, q2.step st⟩) (((e.step s1).step s2).step st) p2⟩⟩
/-- o[i] = value, o a changing list -/
def wSetI (wo wi wv : WE) : WS := fun F δ μ => wv δ μ fun z μ1 => wo δ μ1 fun d μ2 => wi δ μ2 fun i μ3 => ∃ a xs k j, d = .own a ∧ i = .int k ∧ μ3 a = some (.lst xs) ∧ ixN xs.length k = some j ∧ F.nx δ (mset μ3 a (.lst (xs.set j z)))
theorem ds_setI {i : Expr} {wo wi wv : WE} (ho : DE X o wo) (hi : DE X i wi) (hv : DE X value wv)
    (ha : ∀ v, assign (.Subscript o i pos') X.env v = (do
      let ov ← holding [v] (eval o X.env)
      let iv ← holding [v, ov] (eval i X.env)
      standAt pos'
      holding [v, ov, iv] (setItem ov iv v)
      release [v, ov, iv] []) := by intro _; rfl)
    (hs : swapsWithSole [.Subscript o i pos'] value pos.line X.env = pure false := by rfl) (hw : swappedStores [.Subscript o i pos'] value X.env = pure none := by rfl) (h1 : (assignEach [.Subscript o i pos'] X.env).map (·.2) = [assign (.Subscript o i pos') X.env] := by rfl) :
    DS X (.Assign [.Subscript o i pos'] value pos) (wSetI wo wi wv) :=
  weakS (ps_asg hv (pg_sub ho hi set_list ha) hs hw h1) fun E σ H ⟨U, δ, μ, F, c, e, w, k⟩ => ⟨U, δ, μ, _, c, e, w, fun v z H1 μ1 s1 c1 r1 p1 => ⟨U, δ, μ1, _, c1, e.step s1, p1, fun x d H2 μ2 s2 c2 r2 p2 =>
    ⟨U, δ, μ2, _, c2, (e.step s1).step s2, p2, fun y i' H3 μ3 s3 c3 r3 ⟨a, xs, kk, j, ed, ei, hm, hj, p3⟩ => by
      subst ed ei
      cases r2
      cases r3
      obtain ⟨ws, h1, rl⟩ := own_list c3 hm
      refine ⟨a, ws, kk, j, rfl, rfl, h1, by rw [rl.length]; exact hj, ?_⟩
      have st : Step H3 μ3 (upd H3 a (.lst (ws.set j v))) (mset μ3 a (.lst (xs.set j z))) := Step.write hm
      exact k.nx σ δ _ _ (((s1.trans s2).trans s3).trans st) (c3.write (u := .lst (xs.set j z)) hm ⟨_, upd_same, (RepL.set ((r1.step s2).step s3) j rl).step st⟩) ((((e.step s1).step s2).step s3).step st) p3⟩⟩⟩

/-! ### defs -/
/-- a def's promise over data: arguments, changing objects, what is wanted of the result -/
abbrev SpD := List D → Mu → (D → Mu → Prop) → Prop
def liftSp (K : PySem.W.Frag) (sp : SpD) : Sp := fun vs H Q _ => ∃ U ds μ P, ConcM K H μ U ∧ RepL K H μ U vs ds ∧ sp ds μ P ∧ Pst K H μ U (fun H' μ' v d => RepV K H' μ' U v d) P Q
abbrev FnD (Pg : Program) (w : World) (K : PySem.W.Frag) (mg : Str → Option Value) (base : Heap) (k : Nat) (f : Addr) (fd : FuncData) (ps : List Str) (sp : SpD) : Prop := FnOk Pg w K mg base CX0 k f fd ps (liftSp K sp)
def wCall (sp : SpD) (r : WA) : WE := fun δ μ P => r δ μ fun ds μ1 => sp ds μ1 P
variable {es : List Expr} {x m : Str} {fa : Addr} {fd : FuncData} {ps : List Str} {sp : SpD} {k : Nat} {wa : WA}
theorem de_call (F : FnD X.prog X.w X.K X.mg X.base k fa fd ps sp) (hr : Room k X.A) (hg : Gl X x) (hm : X.mg x = some (.ref fa)) (hk : PySem.W.keepIn X.K (.ref fa) = true) (hb : Binds X.K fd ps [])
    (ha : DA X (e :: es) wa) (hdb : (x == ("__debug__" : Str)) = false := by decide) (he : starEach (e :: es) X.env = (false, eval e X.env) :: starEach es X.env := by rfl) (hpl : (backTo pos (starEach es X.env)).any (·.1) = false := by rfl) :
    DE X (.Call (.Name x p) (e :: es) [] pos) (wCall sp wa) := weakE (pe_call F hr hg hm hk hb .nil pass0 ha hdb he hpl) fun σ H Q ⟨U, δ, μ, P, c, ce, w, k⟩ => ⟨U, δ, μ, _, c, ce, w, fun vs ds H1 μ1 s1 c1 r1 p =>
      ⟨U, ds, μ1, P, c1, by rw [List.append_nil]; exact r1, p, k.on s1⟩⟩
/-- o.m(..), o an instance -/
def wMeth (C : Addr) (m : Str) (sp : SpD) (w : WE) (r : WA) : WE := fun δ μ P => w δ μ fun d μ1 => ∃ gs, insD μ1 d = some (C, gs) ∧ gs.lookup m = none ∧ r δ μ1 fun ds μ2 => sp (d :: ds) μ2 P
theorem meth_ok {w : WE} : ∀ σ H Q, liftE X.K (wMeth C m sp w wa) σ H Q → tMeth C m (liftSp X.K sp) [] E0 (liftE X.K w) (liftA X.K wa) σ H Q := fun σ H Q ⟨U, δ, μ, P, c, ce, w, k⟩ =>
  ⟨U, δ, μ, _, c, ce, w, fun v d H1 μ1 s1 c1 r1 ⟨gs, hi, hl, p1⟩ => by
    obtain ⟨a, dx, fs, ev, h1, ek, er⟩ := insD_rd c1 r1 hi
    refine ⟨a, dx, fs, ev, h1, (lookup_rep ek er).2 hl, U, δ, μ1, _, c1, ce.step s1, p1, fun vs ds H2 μ2 s2 c2 r2 p2 => ?_⟩
    exact ⟨U, d :: ds, μ2, P, c2, by rw [List.append_nil]; exact .cons (r1.step s2) r2, p2, k.on (s1.trans s2)⟩⟩
theorem de_meth {w : WE} (he : DE X o w) (cl : Cls X.K C) (hm : Meth X.K C m fa) (F : FnD X.prog X.w X.K X.mg X.base k fa fd ps sp) (hr : Room k X.A) (hb : Binds X.K fd ps []) (ha : DA X (e :: es) wa) {pl : Sem Bool}
    (hst : starEach (e :: es) X.env = (false, eval e X.env) :: starEach es X.env := by rfl) (hpl : (backTo pos (starEach es X.env)).any (·.1) = false := by rfl)
    (ht : eval (.Call (.Attribute o m apos) (e :: es) [] pos) X.env = (do
      let ov ← eval o X.env
      standAt apos.atName
      let (f, first) ← holding [ov] (getMethod ov m pl)
      callWith pos f first (backTo pos (starEach (e :: es) X.env)) (backToKw pos (keywordEach [] X.env))) := by rfl) :
    DE X (.Call (.Attribute o m apos) (e :: es) [] pos) (wMeth C m sp w wa) := weakE (pe_meth he cl hm F hr hb .nil pass0 ha hst hpl ht) meth_ok
theorem de_meth0 {w : WE} (he : DE X o w) (cl : Cls X.K C) (hm : Meth X.K C m fa) (F : FnD X.prog X.w X.K X.mg X.base k fa fd ps sp) (hr : Room k X.A) (hb : Binds X.K fd ps []) {pl : Sem Bool}
    (ht : eval (.Call (.Attribute o m apos) [] [] pos) X.env = (do
      let ov ← eval o X.env
      standAt apos.atName
      let (f, first) ← holding [ov] (getMethod ov m pl)
      callWith pos f first (backTo pos (starEach [] X.env)) (backToKw pos (keywordEach [] X.env))) := by rfl) :
    DE X (.Call (.Attribute o m apos) [] [] pos) (wMeth C m sp w wNil) := weakE (pe_meth0 he cl hm F hr hb .nil pass0 ht) fun σ H Q ⟨U, δ, μ, P, c, ce, w, k⟩ =>
  ⟨U, δ, μ, _, c, ce, w, fun v d H1 μ1 s1 c1 r1 ⟨gs, hi, hl, p1⟩ => by
    obtain ⟨a, dx, fs, ev, h1, ek, er⟩ := insD_rd c1 r1 hi
    exact ⟨a, dx, fs, ev, h1, (lookup_rep ek er).2 hl, U, [d], μ1, P, c1, .cons r1 .nil, p1, k.on s1⟩⟩
/-- C(..): a new changing instance, then its __init__ -/
def wMake (C : Addr) (sp : SpD) (r : WA) : WE := fun δ μ P => r δ μ fun ds μ1 => ∀ a, μ1 a = none → sp (.own a :: ds) (mset μ1 a (.ins C [])) fun d μ2 => d = .non ∧ P (.own a) μ2
theorem de_make (M : Mk X.K C fa) (F : FnD X.prog X.w X.K X.mg X.base k fa fd ps sp) (hr : Room (k + 1) X.A) (hg : Gl X x) (hm : X.mg x = some (.ref C)) (hb : Binds X.K fd ps [])
    (ha : DA X (e :: es) wa) (hdb : (x == ("__debug__" : Str)) = false := by decide) (he : starEach (e :: es) X.env = (false, eval e X.env) :: starEach es X.env := by rfl) (hpl : (backTo pos (starEach es X.env)).any (·.1) = false := by rfl) :
    DE X (.Call (.Name x p) (e :: es) [] pos) (wMake C sp wa) := weakE (pe_make M F hr hg hm hb .nil pass0 ha hdb he hpl) fun σ H Q ⟨U, δ, μ, P, c, ce, w, k⟩ => ⟨U, δ, μ, _, c, ce, w, fun vs ds H1 μ1 s1 c1 r1 p a dx ha hdx hne => by
      have st1 : Step H1 μ1 (upd H1 dx (.own a)) μ1 := Step.new hdx
      have hp2 : upd H1 dx (.own a) a = none := by rw [upd_ne hne.symm]; exact ha
      have st2 : Step (upd H1 dx (.own a)) μ1 (upd (upd H1 dx (.own a)) a (.ins C dx [])) (mset μ1 a (.ins C [])) := Step.newM hp2
      have c2 : ConcM X.K (upd (upd H1 dx (.own a)) a (.ins C dx [])) (mset μ1 a (.ins C [])) U := (c1.new hdx).newM (u := .ins C []) hp2 ⟨dx, [], upd_same, rfl, .nil⟩
      refine ⟨U, .own a :: ds, _, _, c2, by rw [List.append_nil]; exact .cons (.own a) ((r1.step st1).step st2), p a (c1.no ha), fun v d H3 μ3 s3 c3 r3 ⟨ed, p3⟩ => ?_⟩
      subst ed
      cases r3
      exact ⟨rfl, k _ _ H3 μ3 (((s1.trans st1).trans st2).trans s3) c3 (.own a) p3⟩⟩
end
/-- the slots at a def's entry -/
def startD (n : Nat) (ds : List D) : De := ds.map some ++ List.replicate (n - ds.length) none
theorem start_ok {K : PySem.W.Frag} {H : Hp} {μ : Mu} {U : Hid} {vs : List V} {ds : List D} (N : List Str) (r : RepL K H μ U vs ds) : ConcE K H μ U (L2.start N vs) (startD N.length ds) := by
  have hl := r.length
  refine ⟨by unfold L2.start startD; rw [List.length_append, List.length_append, List.length_map, List.length_map, List.length_replicate, List.length_replicate, hl], fun i d e => ?_⟩
  unfold startD at e
  by_cases hi : i < ds.length
  · rw [List.getElem?_append_left (by rw [List.length_map]; exact hi), List.getElem?_map, List.getElem?_eq_getElem hi] at e
    cases e
    obtain ⟨v, h1, h2⟩ := r.get (List.getElem?_eq_getElem hi)
    refine ⟨v, ?_, h2⟩
    unfold L2.start
    rw [List.getElem?_append_left (by rw [List.length_map, hl]; exact hi), List.getElem?_map, h1]
    rfl
  · rw [List.getElem?_append_right (by rw [List.length_map]; omega), List.getElem?_replicate] at e
    split at e <;> cases e
section
variable {Pg : Program} {w : World} {K : PySem.W.Frag} {mg : Str → Option Value} {base : Heap}
/-- THE RULE for a def: its body's reading, and what it is worth over data -/
theorem fn_ok {x qual : Str} {st : Stmt} {f : Addr} {fd : FuncData} {N ps : List Str} {k : Nat} {sp : SpD} (F : Fun K x qual st f fd) (S : FnScope N ps (defScope st)) (len : ∀ ds μ P, sp ds μ P → ds.length = ps.length) {wb : WS}
    (hbody : ∀ (cdv : Value) (A : Around) (outer : List Env) (s : Shared) (H : Hp) (E : XK), Room k (A.deeper (envOfC qual (defScope st) s.heap.objs.size f cdv)) →
      DSs (cxOf CX0 Pg w K mg base N qual (defScope st) f cdv A outer s H E).nox (defBody st) wb)
    (hw : ∀ ds μ P, sp ds μ P → wb { nx := fun _ μ' => P .non μ', rt := P } (startD N.length ds) μ) : FnD Pg w K mg base (k + 1) f fd ps sp := by
  refine F.ok S (fun vs H Q E h => ?_) (fun cdv A outer s H vs Q E hr h => ⟨_, hbody cdv A outer s H E hr, ?_⟩)
  · obtain ⟨U, ds, μ, P, c, r, q, _⟩ := h
    rw [r.length]
    exact len ds μ P q
  · obtain ⟨U, ds, μ, P, c, r, q, kk⟩ := h
    refine ⟨U, _, μ, _, c, start_ok N r, hw ds μ P q, ⟨fun σ' δ' H' μ' s' c' e' p' => kk _ _ H' μ' s' c' .non p', kk, fun _ _ _ _ _ _ _ z => z.elim, fun _ _ _ _ _ _ _ z => z.elim⟩⟩
end
end L3
/-! L3More -/
/-! L3More: +, in, ==, is None, chains, globals, f-strings, large numbers over data. -/
namespace L3
open PySem PySem.Spec PyProof.Rows L2

/-! ### + of any kind -/
def gPlus : G2 := fun d1 d2 μ P => match d1, d2 with
  | .int i, .int j => P (.int (i + j)) μ
  | .str a, .str b => a.length + b.length ≤ lim ∧ P (.str (a ++ b)) μ
  | .tup xs, .tup ys => xs ≠ [] ∧ xs.length + ys.length ≤ lim ∧ P (.tup (xs ++ ys)) μ
  | x, y => ∃ xs ys, seqL μ x = some xs ∧ seqL μ y = some ys ∧ xs.length + ys.length ≤ lim ∧ P (.lst (xs ++ ys)) μ
def rPlus (K : PySem.W.Frag) : R2 := fun x y H Q => rI0 (fun i j => .int (i + j)) x y H Q ∨ (∃ i j, x = .str i ∧ y = .str j ∧ i.length + j.length ≤ sizeLine ∧ Q (.str (i ++ j)) H) ∨ rCat x y H Q ∨ rCatT K x y H Q
theorem op_plus {X : Cx} : OpR X (binaryOp .Add) (rPlus X.K) := by
  intro pins s σ H x y u v Q I rx ry h
  rcases h with h | h | h | h
  · exact op_add pins s σ H x y u v Q I rx ry h
  · exact op_add_str pins s σ H x y u v Q I rx ry h
  · exact op_cat pins s σ H x y u v Q I rx ry h
  · exact op_catT pins s σ H x y u v Q I rx ry h
theorem seqL_ex {K : PySem.W.Frag} {H : Hp} {μ : Mu} {U : Hid} {x : V} {d : D} {ds : List D} (c : ConcM K H μ U) (r : RepV K H μ U x d) (e : seqL μ d = some ds) : ∃ a vs, x = .ref a ∧ H a = some (.lst vs) ∧ RepL K H μ U vs ds := by
  cases d with
  | lst zs =>
    cases (Option.some.inj e)
    cases r with
    | lst h n u r => exact ⟨_, _, rfl, h, r⟩
  | own a =>
    cases r
    cases q : μ a with
    | none => simp only [seqL, q] at e; cases e
    | some u =>
      simp only [seqL, q] at e
      cases u with
      | lst zs =>
        cases (Option.some.inj e)
        obtain ⟨_, vs, h, r⟩ := c.ob a _ q
        exact ⟨a, vs, rfl, h, r⟩
      | _ => cases e
  | _ => cases e
theorem od_plus {K : PySem.W.Frag} : OpD K (rPlus K) gPlus := by
  intro U H μ x y d1 d2 P Q c r1 r2 h k
  have lists : (∃ xs ys, seqL μ d1 = some xs ∧ seqL μ d2 = some ys ∧ xs.length + ys.length ≤ lim ∧ P (.lst (xs ++ ys)) μ) → rPlus K x y H Q := by
    rintro ⟨xs, ys, e1, e2, z, p⟩
    obtain ⟨a, vs, rfl, h1, q1⟩ := seqL_ex c r1 e1
    obtain ⟨b, ws, rfl, h2, q2⟩ := seqL_ex c r2 e2
    exact .inr (.inr (.inl ⟨a, b, vs, ws, rfl, rfl, h1, h2, by rw [q1.length, q2.length]; exact lim_le z, fun l hl => (new_tree c k (q1.append q2) hl).1 p⟩))
  unfold gPlus at h
  split at h
  · cases r1; cases r2
    exact .inl ⟨_, _, rfl, rfl, k _ _ H μ (Step.refl _ _) c (.int _) h⟩
  · cases r1; cases r2
    exact .inr (.inl ⟨_, _, rfl, rfl, lim_le h.1, k _ _ H μ (Step.refl _ _) c (.str _) h.2⟩)
  · rename_i xs ys
    cases r1 with
    | tup h1 n1 u1 q1 =>
      cases r2 with
      | tup h2 n2 u2 q2 =>
        refine .inr (.inr (.inr ⟨_, _, _, _, rfl, rfl, .inl (.inl h1), .inl (.inl h2), ?_, by rw [q1.length, q2.length]; exact lim_le h.2.1, ?_, ?_⟩))
        · intro e
          subst e
          have z := q1.length
          exact h.1 (List.length_eq_zero_iff.mp z.symm)
        · intro e
          subst e
          have z : ys = [] := List.length_eq_zero_iff.mp q2.length.symm
          subst z
          have p := h.2.2
          rw [List.append_nil] at p
          exact k _ _ H μ (Step.refl _ _) c (.tup h1 n1 u1 q1) p
        · intro _ l hl
          exact (new_tree c k (q1.append q2) hl).2 h.2.2
  · exact lists h

/-! ### in, not in -/
def flatD : D → Bool
  | .non => true
  | .bl _ => true
  | .int _ => true
  | .str _ => true
  | _ => false
def eqF : D → D → Bool
  | .non, .non => true
  | .bl a, .bl b => a == b
  | .bl a, .int b => (if a then 1 else 0) == b
  | .int a, .bl b => a == (if b then 1 else 0)
  | .int a, .int b => a == b
  | .str a, .str b => a == b
  | _, _ => false
section
variable {K : PySem.W.Frag} {H : Hp} {μ : Mu} {U : Hid}
theorem flat_V {x : V} {d : D} (r : RepV K H μ U x d) (h : flatD d = true) : flatV x = true := by
  cases d <;> first | (cases r; rfl) | cases h
theorem eqF_V {x y : V} {d e : D} (r : RepV K H μ U x d) (q : RepV K H μ U y e) (h1 : flatD d = true) (h2 : flatD e = true) : eqV x y = eqF d e := by
  cases d <;> cases e <;> first | (cases r; cases q; rfl) | cases h1 | cases h2
theorem flatL_V : ∀ {vs : List V} {ds : List D}, RepL K H μ U vs ds → ds.all flatD = true → vs.all flatV = true
  | _, _, .nil, _ => rfl
  | _, _, .cons r t, h => by
    rw [List.all_cons, Bool.and_eq_true] at h ⊢
    exact ⟨flat_V r h.1, flatL_V t h.2⟩
theorem inF_V {x : V} {d : D} (r : RepV K H μ U x d) (h1 : flatD d = true) : ∀ {vs : List V} {ds : List D}, RepL K H μ U vs ds → ds.all flatD = true → inV x vs = ds.any fun y => eqF y d
  | _, _, .nil, _ => rfl
  | _, _, .cons q t, h => by
    rw [List.all_cons, Bool.and_eq_true] at h
    have := inF_V r h1 t h.2
    unfold inV at this ⊢
    rw [List.any_cons, List.any_cons, eqF_V q r h.1 h1, this]
end
def gIn (neg : Bool) : G2 := fun d1 d2 μ P => match d2 with
  | .str z => ∃ c, d1 = .str ⟨#[c]⟩ ∧ P (.bl (if neg then !decide (c ∈ z.cps.toList) else decide (c ∈ z.cps.toList))) μ
  | d2 => ∃ xs, walkD μ d2 = some xs ∧ flatD d1 = true ∧ xs.all flatD = true ∧ P (.bl (if neg then !(xs.any fun y => eqF y d1) else xs.any fun y => eqF y d1)) μ
def rInAll (K : PySem.W.Frag) (neg : Bool) : R2 := fun x y H Q => (∃ (c : Nat) (z : Str), x = .str ⟨#[c]⟩ ∧ y = .str z ∧ Q (.bl (if neg then !decide (c ∈ z.cps.toList) else decide (c ∈ z.cps.toList))) H) ∨ rIn K neg x y H Q
theorem op_inAll {X : Cx} : OpR X (compareOp .In) (rInAll X.K false) := by
  intro pins s σ H x y u v Q I rx ry h
  rcases h with h | h
  · exact op_in_sign pins s σ H x y u v Q I rx ry h
  · exact op_in_seq pins s σ H x y u v Q I rx ry h
theorem op_notInAll {X : Cx} : OpR X (compareOp .NotIn) (rInAll X.K true) := by
  intro pins s σ H x y u v Q I rx ry h
  rcases h with h | h
  · exact op_notIn_sign pins s σ H x y u v Q I rx ry h
  · exact op_notIn_seq pins s σ H x y u v Q I rx ry h
theorem od_in {K : PySem.W.Frag} {neg : Bool} : OpD K (rInAll K neg) (gIn neg) := by
  intro U H μ x y d1 d2 P Q c r1 r2 h k
  unfold gIn at h
  split at h
  · obtain ⟨z, e, p⟩ := h
    subst e
    cases r1; cases r2
    exact .inl ⟨_, _, rfl, rfl, k _ _ H μ (Step.refl _ _) c (.bl _) p⟩
  · obtain ⟨xs, hw, f1, f2, p⟩ := h
    obtain ⟨a, vs, rfl, hq, rl⟩ := walk_rd c r2 hw
    refine .inr ⟨a, vs, rfl, hq, flat_V r1 f1, flatL_V rl f2, ?_⟩
    rw [inF_V r1 f1 rl f2]
    exact k _ _ H μ (Step.refl _ _) c (.bl _) p

/-! ### is None -/
def isNonD : D → Bool
  | .non => true
  | _ => false
theorem isNon_V {K : PySem.W.Frag} {H : Hp} {μ : Mu} {U : Hid} {x : V} {d : D} (r : RepV K H μ U x d) : decide (x = .non) = isNonD d := by
  cases r <;> rfl
def gIs : G2 := fun d1 d2 μ P => d2 = .non ∧ P (.bl (isNonD d1)) μ
def gIsNot : G2 := fun d1 d2 μ P => d2 = .non ∧ P (.bl (!isNonD d1)) μ
theorem od_is {K : PySem.W.Frag} : OpD K (fun x y H Q => y = .non ∧ Q (.bl (decide (x = .non))) H) gIs := fun U H μ x y d1 d2 P Q c r1 r2 ⟨e, p⟩ k => by
  subst e
  cases r2
  exact ⟨rfl, by rw [isNon_V r1]; exact k _ _ H μ (Step.refl _ _) c (.bl _) p⟩
theorem od_isNot {K : PySem.W.Frag} : OpD K (fun x y H Q => y = .non ∧ Q (.bl (!decide (x = .non))) H) gIsNot := fun U H μ x y d1 d2 P Q c r1 r2 ⟨e, p⟩ k => by
  subst e
  cases r2
  exact ⟨rfl, by rw [isNon_V r1]; exact k _ _ H μ (Step.refl _ _) c (.bl _) p⟩

/-! ### == of trees -/
mutual
def toPy : D → Option PyData
  | .non => some .none
  | .bl b => some (.bool b)
  | .int i => some (.int i)
  | .str x => some (.str x)
  | .lst ds => (toPyL ds).map PyData.list
  | .tup ds => (toPyL ds).map PyData.tuple
  | _ => none
def toPyL : List D → Option (List PyData)
  | [] => some []
  | d :: ds => match toPy d, toPyL ds with
    | some a, some b => some (a :: b)
    | _, _ => none
end
mutual
theorem toPy_Dp {K : PySem.W.Frag} {H : Hp} {μ : Mu} {U : Hid} : ∀ {x : V} {d : D} {p : PyData}, RepV K H μ U x d → toPy d = some p → Dp K H x p
  | _, _, _, .non, h => by simp only [toPy, Option.some.injEq] at h; subst h; exact .non
  | _, _, _, .bl b, h => by simp only [toPy, Option.some.injEq] at h; subst h; exact .bl b
  | _, _, _, .int i, h => by simp only [toPy, Option.some.injEq] at h; subst h; exact .int i
  | _, _, _, .str s, h => by simp only [toPy, Option.some.injEq] at h; subst h; exact .str s
  | _, _, _, .ty n, h => by simp [toPy] at h
  | _, _, _, .own a, h => by simp [toPy] at h
  | _, _, _, .lst (ds := ds) e n u r, h => by
    simp only [toPy, Option.map_eq_some_iff] at h
    obtain ⟨l, hl, rfl⟩ := h
    exact .lst (.inl (.inl e)) (toPyL_Dp r hl)
  | _, _, _, .tup (ds := ds) e n u r, h => by
    simp only [toPy, Option.map_eq_some_iff] at h
    obtain ⟨l, hl, rfl⟩ := h
    exact .tup (.inl (.inl e)) (toPyL_Dp r hl)
  | _, _, _, .fz .., h => by simp [toPy] at h
  | _, _, _, .ins .., h => by simp [toPy] at h
  | _, _, _, .dK .., h => by simp [toPy] at h
  | _, _, _, .dT .., h => by simp [toPy] at h
theorem toPyL_Dp {K : PySem.W.Frag} {H : Hp} {μ : Mu} {U : Hid} : ∀ {vs : List V} {ds : List D} {p : List PyData}, RepL K H μ U vs ds → toPyL ds = some p → DpAll K H vs p
  | _, _, _, .nil, h => by simp only [toPyL, Option.some.injEq] at h; subst h; exact .nil
  | _, _, _, .cons (d := d) (ds := ds) r t, h => by
    simp only [toPyL] at h
    cases h1 : toPy d with
    | none => simp [h1] at h
    | some a =>
      cases h2 : toPyL ds with
      | none => simp [h1, h2] at h
      | some b =>
        simp only [h1, h2, Option.some.injEq] at h
        subst h
        exact .cons (toPy_Dp r h1) (toPyL_Dp t h2)
end
/-- .. a changing list too -/
def toPyM (μ : Mu) : D → Option PyData
  | .own a => match μ a with
    | some (.lst ds) => (toPyL ds).map PyData.list
    | _ => none
  | d => toPy d
theorem toPyM_Dp {K : PySem.W.Frag} {H : Hp} {μ : Mu} {U : Hid} {x : V} {d : D} {p : PyData} (c : ConcM K H μ U) (r : RepV K H μ U x d) (h : toPyM μ d = some p) : Dp K H x p := by
  cases d with
  | own a =>
    cases r
    cases q : μ a with
    | none => simp only [toPyM, q] at h; cases h
    | some u =>
      simp only [toPyM, q] at h
      cases u with
      | lst ds =>
        obtain ⟨_, vs, e, rl⟩ := c.ob a _ q
        simp only [Option.map_eq_some_iff] at h
        obtain ⟨l, hl, rfl⟩ := h
        exact .lst (.inl (.inl e)) (toPyL_Dp rl hl)
      | _ => cases h
  | _ => exact toPy_Dp r h
def gEqD : G2 := fun d1 d2 μ P => ∃ p q, toPyM μ d1 = some p ∧ toPyM μ d2 = some q ∧ SeqAt.shaped p = true ∧ SeqAt.shaped q = true ∧ P (.bl (PyData.eqv p q)) μ
def gNeD : G2 := fun d1 d2 μ P => ∃ p q, toPyM μ d1 = some p ∧ toPyM μ d2 = some q ∧ SeqAt.shaped p = true ∧ SeqAt.shaped q = true ∧ P (.bl (!PyData.eqv p q)) μ
theorem od_eqD {K : PySem.W.Frag} : OpD K (rEqD K) gEqD := fun U H μ x y d1 d2 P Q c r1 r2 ⟨p, q, h1, h2, z1, z2, pp⟩ k =>
  ⟨p, q, toPyM_Dp c r1 h1, toPyM_Dp c r2 h2, z1, z2, k _ _ H μ (Step.refl _ _) c (.bl _) pp⟩
theorem od_neD {K : PySem.W.Frag} : OpD K (rNeD K) gNeD := fun U H μ x y d1 d2 P Q c r1 r2 ⟨p, q, h1, h2, z1, z2, pp⟩ k =>
  ⟨p, q, toPyM_Dp c r1 h1, toPyM_Dp c r2 h2, z1, z2, k _ _ H μ (Step.refl _ _) c (.bl _) pp⟩
def gInD (neg : Bool) : G2 := fun d1 d2 μ P => ∃ p qs, toPyM μ d1 = some p ∧ toPyM μ d2 = some (.list qs) ∧ SeqAt.shaped p = true ∧ SeqAt.shaped (.list qs) = true ∧ P (.bl (if neg then !qs.any fun z => PyData.eqv z p else qs.any fun z => PyData.eqv z p)) μ
theorem od_inD {K : PySem.W.Frag} : OpD K (rInD K) (gInD false) := fun U H μ x y d1 d2 P Q c r1 r2 ⟨p, q, h1, h2, z1, z2, pp⟩ k =>
  ⟨p, q, toPyM_Dp c r1 h1, toPyM_Dp c r2 h2, z1, z2, k _ _ H μ (Step.refl _ _) c (.bl _) pp⟩
theorem od_notInD {K : PySem.W.Frag} : OpD K (rNotInD K) (gInD true) := fun U H μ x y d1 d2 P Q c r1 r2 ⟨p, q, h1, h2, z1, z2, pp⟩ k =>
  ⟨p, q, toPyM_Dp c r1 h1, toPyM_Dp c r2 h2, z1, z2, k _ _ H μ (Step.refl _ _) c (.bl _) pp⟩

/-! ### powers, large numbers -/
abbrev gPow : G2 := gIC CPow fun i j => .int (i ^ j.toNat)
theorem od_pow {K : PySem.W.Frag} : OpD K (rI CPow fun i j => .int (i ^ j.toNat)) gPow := od_I (fun _ _ h => h) fun i j _ _ _ => .int _
abbrev gMulW : G2 := gIC CMulW fun i j => .int (i * j)
abbrev gDivW : G2 := gIC CDivW fun i j => .int (i / j)
theorem od_mulW {K : PySem.W.Frag} : OpD K (rI CMulW fun i j => .int (i * j)) gMulW := od_I (fun _ _ h => h) fun i j _ _ _ => .int _
theorem od_divW {K : PySem.W.Frag} : OpD K (rI CDivW fun i j => .int (i / j)) gDivW := od_I (fun _ _ h => h) fun i j _ _ _ => .int _

/-- // by a divisor of either sign -/
def CDivX (_ j : Int) : Prop := j ≠ 0 ∧ j.natAbs.log2 < 9000
theorem op_fdivX {X : Cx} : OpR X (binaryOp .FloorDiv) (rI CDivX fun i j => .int (i.fdiv j)) := opI fun i j _ _ _ _ _ hc q => floordiv_int hc.1 q (.inl (PyProof.noPylong_of_log2 hc.2))
abbrev gDivX : G2 := gIC CDivX fun i j => .int (i.fdiv j)
theorem od_divX {K : PySem.W.Frag} : OpD K (rI CDivX fun i j => .int (i.fdiv j)) gDivX := od_I (fun _ _ h => h) fun i j _ _ _ => .int _
/-- * of two small, or of one small and any -/
def CMulX (i j : Int) : Prop := CMul i j ∨ CMulW i j
theorem CMulX.ok {i j : Int} (h : CMulX i j) : IntMulOk i j := h.elim CMul.ok CMulW.ok
theorem op_mulX {X : Cx} : OpR X (binaryOp .Mult) (rI CMulX fun i j => .int (i * j)) := opI fun _ _ _ _ _ _ _ hc q => mul_int q (CMulX.ok hc)
abbrev gMulX : G2 := gIC CMulX fun i j => .int (i * j)
theorem od_mulX {K : PySem.W.Frag} : OpD K (rI CMulX fun i j => .int (i * j)) gMulX := od_I (fun _ _ h => h) fun i j _ _ _ => .int _
/-! ### chains -/
section
variable {X : Cx} {a b c e : Expr} {op op' : CmpOp} {pos : Pos} {x : Str}
def wChain (g g' : G2) (wa wb wc : WE) : WE := fun δ μ P => wa δ μ fun x μ1 => wb δ μ1 fun y μ2 => g x y μ2 fun z μ3 => ∃ k, z = .bl k ∧ if k = true then wc δ μ3 fun w μ4 => g' y w μ4 P else P (.bl false) μ3
theorem chain_ok {r r' : R2} {g g' : G2} {wa wb wc : WE} (hg : OpD X.K r g) (hg' : OpD X.K r' g') : ∀ σ H Q, liftE X.K (wChain g g' wa wb wc) σ H Q → tChain r r' (liftE X.K wa) (liftE X.K wb) (liftE X.K wc) σ H Q := fun σ H Q ⟨U, δ, μ, P, cm, ce, w, k⟩ =>
  ⟨U, δ, μ, _, cm, ce, w, fun x d1 H1 μ1 s1 c1 r1 w1 => ⟨U, δ, μ1, _, c1, ce.step s1, w1, fun y d2 H2 μ2 s2 c2 r2 w2 => hg U H2 μ2 x y d1 d2 _ _ c2 (r1.step s2) r2 w2 fun z d3 H3 μ3 s3 c3 r3 ⟨b, ez, w3⟩ => by
    subst ez
    cases r3
    refine ⟨b, rfl, ?_⟩
    cases b with
    | true =>
      rw [if_pos rfl] at w3 ⊢
      exact ⟨U, δ, μ3, _, c3, ((ce.step s1).step s2).step s3, w3, fun w' d4 H4 μ4 s4 c4 r4 w4 => hg' U H4 μ4 y w' d2 d4 P Q c4 ((r2.step s3).step s4) r4 w4 (k.on (((s1.trans s2).trans s3).trans s4))⟩
    | false =>
      rw [if_neg Bool.false_ne_true] at w3 ⊢
      exact k _ _ H3 μ3 ((s1.trans s2).trans s3) c3 (.bl false) w3⟩⟩
theorem de_chain {r r' : R2} {g g' : G2} {wa wb wc : WE} (ho : OpR X (compareOp op) r) (hg : OpD X.K r g) (ho' : OpR X (compareOp op') r') (hg' : OpD X.K r' g') (ha : DE X a wa) (hb : DE X b wb) (hc : DE X c wc)
    (hm : lastMarks [op, op'] [b, c] = false := by with_unfolding_all rfl) : DE X (.Compare a [op, op'] [b, c] pos) (wChain g g' wa wb wc) := weakE (pe_chain ho ho' ha hb hc hm) (chain_ok hg hg')
theorem dt_chain {r r' : R2} {g g' : G2} {wa wb wc : WE} (ho : OpR X (compareOp op) r) (hg : OpD X.K r g) (ho' : OpR X (compareOp op') r') (hg' : OpD X.K r' g') (ha : DE X a wa) (hb : DE X b wb) (hc : DE X c wc)
    (hm : lastMarks [op, op'] [b, c] = false := by with_unfolding_all rfl) : DT X (.Compare a [op, op'] [b, c] pos) (wTest (wChain g g' wa wb wc)) :=
  weakT (pt_chain ho ho' ha hb hc hm) fun σ H Q h => by
    have := lift_test (X := X) σ H Q h
    exact chain_ok hg hg' _ _ _ this

/-! ### a module's name -/
theorem de_glob {v : V} {d : D} {u : Value} (hg : Gl X x) (hm : X.mg x = some u) (r : RelV v u) (rd : ∀ H μ U, RepV X.K H μ U v d) (hdb : (x == ("__debug__" : Str)) = false := by decide) : DE X (.Name x pos) (wC d) := de_c (pe_glob hg hm r hdb) rd

/-! ### f'..' -/
def wFmt (w : WE) : WE := fun δ μ P => w δ μ fun d μ1 => match d with
  | .str y => y.length ≤ lim ∧ P (.str y) μ1
  | .int i => i.natAbs.log2 < 1920 ∧ P (.str (toString i)) μ1
  | _ => False
theorem de_fmt {w : WE} (h : DE X e w) : DE X (.FormattedValue e (-1) none pos) (wFmt w) := weakE (pe_fmt h) fun σ H Q ⟨U, δ, μ, P, c, ce, w, k⟩ => ⟨U, δ, μ, _, c, ce, w, fun v d H1 μ1 s1 c1 r1 p => by
  cases d with
  | str y =>
    cases r1
    exact .inl ⟨y, rfl, lim_le p.1, k _ _ H1 μ1 s1 c1 (.str _) p.2⟩
  | int i =>
    cases r1
    exact .inr ⟨i, rfl, p.1, k _ _ H1 μ1 s1 c1 (.str _) p.2⟩
  | _ => exact p.elim⟩
def wJs : List WE → Str → De → Mu → (Str → Mu → Prop) → Prop
  | [], acc, _, μ, P => P acc μ
  | w :: ws, acc, δ, μ, P => w δ μ fun d μ1 => ∃ y : Str, d = .str y ∧ (acc ++ y).length ≤ lim ∧ wJs ws (acc ++ y) δ μ1 P
inductive DJ (X : Cx) : List Expr → List WE → Prop where
  | nil : DJ X [] []
  | cons {e : Expr} {w : WE} {es : List Expr} {ws : List WE} (h : DE X e w) (r : DJ X es ws) : DJ X (e :: es) (w :: ws)
theorem DJ.pj {es : List Expr} {ws : List WE} (h : DJ X es ws) : PJ X es (ws.map (liftE X.K)) := by
  induction h with
  | nil => exact .nil
  | cons h r ih => exact .cons h ih
theorem wJs_ok : ∀ (ws : List WE) (acc : Str) (σ : L2.St) (H : Hp) (Q : Str → Hp → Prop) (U : Hid) (δ : De) (μ : Mu) (P : Str → Mu → Prop), ConcM X.K H μ U → ConcE X.K H μ U σ δ → wJs ws acc δ μ P →
    (∀ out H' μ', Step H μ H' μ' → ConcM X.K H' μ' U → P out μ' → Q out H') → tJs (ws.map (liftE X.K)) acc σ H Q
  | [], acc, σ, H, Q, U, δ, μ, P, c, ce, w, k => k acc H μ (Step.refl _ _) c w
  | w :: ws, acc, σ, H, Q, U, δ, μ, P, c, ce, h, k => ⟨U, δ, μ, _, c, ce, h, fun v d H1 μ1 s1 c1 r1 ⟨y, ey, z, p⟩ => by
    subst ey
    cases r1
    exact ⟨y, rfl, lim_le z, wJs_ok ws (acc ++ y) σ H1 Q U δ μ1 P c1 (ce.step s1) p fun out H' μ' s c' q => k out H' μ' (s1.trans s) c' q⟩⟩
def wJoined (ws : List WE) : WE := fun δ μ P => wJs ws Str.empty δ μ fun out μ1 => P (.str out) μ1
theorem de_joined {v1 v2 : Expr} {rest : List Expr} {ws : List WE} (h : DJ X (v1 :: v2 :: rest) ws) : DE X (.JoinedStr (v1 :: v2 :: rest) pos) (wJoined ws) := weakE (pe_joined h.pj) fun σ H Q ⟨U, δ, μ, P, c, ce, w, k⟩ =>
  wJs_ok ws Str.empty σ H _ U δ μ _ c ce w fun out H' μ' s c' q => k _ _ H' μ' s c' (.str out) q
end
end L3
/-! L3Fun -/
/-! L3Fun: what the top has left, defs by name, the rule for a def. -/
namespace L3
open PySem PySem.Spec PyProof.Rows L2

/-- what the top has left -/
structure Tp (fa : List He.Fa) (fn : List He.DefD) (ex : PySem.W.Frag → Bool) (K : PySem.W.Frag) (mg : Str → Option Value) : Prop where
  says : He.SaysD fa fn K
  more : ex K = true
  heap : ∃ h : Heap, K.In h ∧ h.Ns mainGlobals mg
section
variable {fa : List He.Fa} {fn : List He.DefD} {K : PySem.W.Frag} {mg : Str → Option Value} {x f m : Str} {ex : PySem.W.Frag → Bool}
theorem Tp.glo (T : Tp fa fn ex K mg) (i : Nat) (h : fa[i]? = some (.glo x) := by rfl) : mg x = some (.ref (He.ga K x)) := let ⟨_, X, G⟩ := T.heap; He.glo_ok X G (T.says.fact i h)
theorem Tp.free (T : Tp fa fn ex K mg) (i : Nat) (h : fa[i]? = some (.free x) := by rfl) : mg x = none := let ⟨_, X, G⟩ := T.heap; He.free_ok X G (T.says.fact i h)
theorem Tp.cls (T : Tp fa fn ex K mg) (i : Nat) (h : fa[i]? = some (.cls x) := by rfl) : Cls K (He.ga K x) := He.cls_ok (T.says.fact i h)
theorem Tp.noat (T : Tp fa fn ex K mg) (i : Nat) (h : fa[i]? = some (.noat x f) := by rfl) : NoAttr K (He.ga K x) f := He.noat_ok (T.says.fact i h)
theorem Tp.meth (T : Tp fa fn ex K mg) (i : Nat) (h : fa[i]? = some (.meth x m) := by rfl) : Meth K (He.ga K x) m (He.ma K (He.ga K x) m) := He.meth_ok (T.says.fact i h)
theorem Tp.mkr (T : Tp fa fn ex K mg) (i : Nat) (h : fa[i]? = some (.mkr x) := by rfl) : Mk K (He.ga K x) (He.ma K (He.ga K x) "__init__") := He.mkr_ok (T.says.fact i h)
theorem Tp.str (T : Tp fa fn ex K mg) (i : Nat) {z : Str} (h : fa[i]? = some (.str x z) := by rfl) : ∃ t, mg x = some (.str z t) := let ⟨_, X, G⟩ := T.heap; He.str_ok X G (T.says.fact i h)
theorem Tp.int (T : Tp fa fn ex K mg) (i : Nat) {z : Int} (h : fa[i]? = some (.int x z) := by rfl) : ∃ t, mg x = some (.int z t) := let ⟨_, X, G⟩ := T.heap; He.int_ok X G (T.says.fact i h)
end
theorem uni0 {k : Nat} {A : Around} (r : Room k A) : A.units < cLine := by have := r.units; omega
theorem uni1 {k : Nat} {A : Around} (r : Room k A) : A.units + 1 < cLine := by have := r.units; omega
/-- the def's body, parameters, scope as a statement -/
structure GDef (Pg : Program) (w : World) (K : PySem.W.Frag) (mg : Str → Option Value) (base : Heap) (k : Nat) (fa : Addr) (ps : List Str) (sp : SpD) : Prop where
  ex : ∃ fd, FnD Pg w K mg base k fa fd ps sp ∧ Binds K fd ps []
  kp : PySem.W.keepIn K (.ref fa) = true
section
variable {X : Cx} {e o : Expr} {es : List Expr} {x m : Str} {fa C : Addr} {ps : List Str} {sp : SpD} {k : Nat} {wa : WA} {pos p apos : Pos}
theorem de_callG (F : GDef X.prog X.w X.K X.mg X.base k fa ps sp) (hr : Room k X.A) (hm : X.mg x = some (.ref fa)) (ha : DA X (e :: es) wa) (hg : Gl X x := by rfl) (hdb : (x == ("__debug__" : Str)) = false := by decide) (he : starEach (e :: es) X.env = (false, eval e X.env) :: starEach es X.env := by rfl) (hpl : (backTo pos (starEach es X.env)).any (·.1) = false := by rfl) :
    DE X (.Call (.Name x p) (e :: es) [] pos) (wCall sp wa) := by
  obtain ⟨fd, h1, h2⟩ := F.ex
  exact de_call h1 hr hg hm F.kp h2 ha hdb he hpl
theorem de_methG {w : WE} (F : GDef X.prog X.w X.K X.mg X.base k fa ps sp) (hr : Room k X.A) (cl : Cls X.K C) (hm : Meth X.K C m fa) (he : DE X o w) (ha : DA X (e :: es) wa) {pl : Sem Bool}
    (hst : starEach (e :: es) X.env = (false, eval e X.env) :: starEach es X.env := by rfl) (hpl : (backTo pos (starEach es X.env)).any (·.1) = false := by rfl)
    (ht : eval (.Call (.Attribute o m apos) (e :: es) [] pos) X.env = (do
      let ov ← eval o X.env
      standAt apos.atName
      let (f, first) ← holding [ov] (getMethod ov m pl)
      callWith pos f first (backTo pos (starEach (e :: es) X.env)) (backToKw pos (keywordEach [] X.env))) := by rfl) :
    DE X (.Call (.Attribute o m apos) (e :: es) [] pos) (wMeth C m sp w wa) := by
  obtain ⟨fd, h1, h2⟩ := F.ex
  exact de_meth he cl hm h1 hr h2 ha hst hpl ht
theorem de_meth0G {w : WE} (F : GDef X.prog X.w X.K X.mg X.base k fa ps sp) (hr : Room k X.A) (cl : Cls X.K C) (hm : Meth X.K C m fa) (he : DE X o w) {pl : Sem Bool}
    (ht : eval (.Call (.Attribute o m apos) [] [] pos) X.env = (do
      let ov ← eval o X.env
      standAt apos.atName
      let (f, first) ← holding [ov] (getMethod ov m pl)
      callWith pos f first (backTo pos (starEach [] X.env)) (backToKw pos (keywordEach [] X.env))) := by rfl) :
    DE X (.Call (.Attribute o m apos) [] [] pos) (wMeth C m sp w wNil) := by
  obtain ⟨fd, h1, h2⟩ := F.ex
  exact de_meth0 he cl hm h1 hr h2 ht
theorem de_makeG (F : GDef X.prog X.w X.K X.mg X.base k fa ps sp) (M : Mk X.K C fa) (hr : Room (k + 1) X.A) (hm : X.mg x = some (.ref C)) (ha : DA X (e :: es) wa) (hg : Gl X x := by rfl)
    (hdb : (x == ("__debug__" : Str)) = false := by decide) (he : starEach (e :: es) X.env = (false, eval e X.env) :: starEach es X.env := by rfl) (hpl : (backTo pos (starEach es X.env)).any (·.1) = false := by rfl) :
    DE X (.Call (.Name x p) (e :: es) [] pos) (wMake C sp wa) := by
  obtain ⟨fd, h1, h2⟩ := F.ex
  exact de_make M h1 hr hg hm h2 ha hdb he hpl
end
section
variable {Pg : Program} {w : World} {K : PySem.W.Frag} {mg : Str → Option Value} {base : Heap} {fa : List He.Fa} {fn : List He.DefD} {ex : PySem.W.Frag → Bool}
/-- some changing objects are no longer told of -/
def Forget (μ μ' : Mu) : Prop := ∀ b, μ' b = μ b ∨ μ' b = none
theorem Forget.step {H : Hp} {μ μ' : Mu} (f : Forget μ μ') : Step H μ H μ' := fun b o e n => ⟨e, (f b).elim (fun h => h.trans n) id⟩
theorem Forget.conc {H : Hp} {μ μ' : Mu} {U : Hid} (f : Forget μ μ') (c : ConcM K H μ U) : ConcM K H μ' U := ⟨fun b u e => by
  have h : μ b = some u := by
    rcases f b with h | h
    · rw [← h]; exact e
    · rw [h] at e; cases e
  exact ⟨(c.ob b u h).1, (c.ob b u h).2.keep (f.step.kp U) rfl⟩, c.fr⟩
def fgt (P : D → Mu → Prop) : D → Mu → Prop := fun d μ => ∃ μ', Forget μ μ' ∧ P d μ'
/-- THE RULE for a def of the top's list -/
theorem def_ok (T : Tp fa fn ex K mg) (i : Nat) {d : He.DefD} {N ps : List Str} {k : Nat} {sp : SpD} (hd : fn[i]? = some d) (h0 : d.dfl = []) (S : FnScope N ps d.scope)
    (hb : ∀ (kV doc pm : Value) (an : Option Addr) (cdv ct : Value) (us : List Value), us.length = ps.length → bindArgs (PySem.W.fnOf d.name d.qual d.params d.body d.scope .none kV doc pm an cdv ct) ⟨us, []⟩ = pure (ps.zip us))
    (len : ∀ ds μ P, sp ds μ P → ds.length = ps.length) {wb : WS}
    (hbody : ∀ (cdv : Value) (A : Around) (outer : List PySem.Env) (s : Shared) (H : Hp) (E : XK), Room k (A.deeper (envOfC d.qual d.scope s.heap.objs.size (He.fAd K d.at_) cdv)) →
      DSs (cxOf CX0 Pg w K mg base N d.qual d.scope (He.fAd K d.at_) cdv A outer s H E).nox d.body wb)
    (hw : ∀ ds μ P, sp ds μ P → wb { nx := fun _ μ' => P .non μ', rt := P } (startD N.length ds) μ) : GDef Pg w K mg base (k + 1) (He.fAd K d.at_) ps sp := by
  obtain ⟨fd, F⟩ := T.says.def_ i hd
  have e0 : d.dvs K = [] := by unfold He.DefD.dvs; rw [h0]; rfl
  rw [e0] at F
  refine ⟨⟨fd, ?_, FunD.bindsN F hb⟩, F.kp⟩
  refine F.ok S (fun vs H Q E h => ?_) (fun cdv A outer s H vs Q E hr h => ⟨_, PSs.nox (hbody cdv A outer s H E hr), ?_⟩)
  · obtain ⟨U, ds, μ, P, c, r, q, _⟩ := h
    rw [r.length]
    exact len ds μ P q
  · obtain ⟨U, ds, μ, P, c, r, q, kk⟩ := h
    refine ⟨U, _, μ, _, c, start_ok N r, hw ds μ P q, ⟨fun σ' δ' H' μ' s' c' e' p' => kk _ _ H' μ' s' c' .non p', kk, fun _ _ _ _ _ _ _ z => z.elim, fun _ _ _ _ _ _ _ z => z.elim⟩⟩
/-- THE RULE, where a def leaves objects behind that no one sees -/
theorem def_okF (T : Tp fa fn ex K mg) (i : Nat) {d : He.DefD} {N ps : List Str} {k : Nat} {sp : SpD} (hd : fn[i]? = some d) (h0 : d.dfl = []) (S : FnScope N ps d.scope)
    (hb : ∀ (kV doc pm : Value) (an : Option Addr) (cdv ct : Value) (us : List Value), us.length = ps.length → bindArgs (PySem.W.fnOf d.name d.qual d.params d.body d.scope .none kV doc pm an cdv ct) ⟨us, []⟩ = pure (ps.zip us))
    (len : ∀ ds μ P, sp ds μ P → ds.length = ps.length) {wb : WS}
    (hbody : ∀ (cdv : Value) (A : Around) (outer : List PySem.Env) (s : Shared) (H : Hp) (E : XK), Room k (A.deeper (envOfC d.qual d.scope s.heap.objs.size (He.fAd K d.at_) cdv)) →
      DSs (cxOf CX0 Pg w K mg base N d.qual d.scope (He.fAd K d.at_) cdv A outer s H E).nox d.body wb)
    (hw : ∀ ds μ P, sp ds μ P → wb { nx := fun _ μ' => fgt P .non μ', rt := fgt P } (startD N.length ds) μ) : GDef Pg w K mg base (k + 1) (He.fAd K d.at_) ps sp := by
  obtain ⟨fd, F⟩ := T.says.def_ i hd
  have e0 : d.dvs K = [] := by unfold He.DefD.dvs; rw [h0]; rfl
  rw [e0] at F
  refine ⟨⟨fd, ?_, FunD.bindsN F hb⟩, F.kp⟩
  refine F.ok S (fun vs H Q E h => ?_) (fun cdv A outer s H vs Q E hr h => ⟨_, PSs.nox (hbody cdv A outer s H E hr), ?_⟩)
  · obtain ⟨U, ds, μ, P, c, r, q, _⟩ := h
    rw [r.length]
    exact len ds μ P q
  · obtain ⟨U, ds, μ, P, c, r, q, kk⟩ := h
    refine ⟨U, _, μ, _, c, start_ok N r, hw ds μ P q, ⟨fun σ' δ' H' μ' s' c' e' ⟨μ2, f, p'⟩ => kk _ _ H' μ2 (s'.trans f.step) (f.conc c') .non p', fun v d H' μ' s' c' r' ⟨μ2, f, p'⟩ => kk _ _ H' μ2 (s'.trans f.step) (f.conc c') (r'.step f.step) p', fun _ _ _ _ _ _ _ z => z.elim, fun _ _ _ _ _ _ _ z => z.elim⟩⟩
end
end L3
/-! L3Own -/
/-! L3Own: == and operators by an own def, isinstance over data. -/
namespace L3
open PySem PySem.Spec PyProof.Rows L2
section
variable {X : Cx} {C fa : Addr} {ps : List Str} {sp : SpD} {k : Nat}
/-- x op y, both instances of the class at C -/
def rOwnI (C : Addr) (sp : Sp) : R2 := fun x y H Q => ∃ a dx fs b dy gs, x = .ref a ∧ y = .ref b ∧ H a = some (.ins C dx fs) ∧ H b = some (.ins C dy gs) ∧ sp [x, y] H Q E0
theorem run_two {s : Shared} {pins : List (Addr × Obj)} {σ : L2.St} {H : Hp} {Q : VK} (F : GDef X.prog X.w X.K X.mg X.base k fa ps sp) (hr : Room k X.A) (I : Inv X pins σ H s) {a b : Addr} (h2 : ps.length = 2)
    (h : liftSp X.K sp [.ref a, .ref b] H Q E0) : wpAny (model X.prog X.w) X.A (call (.ref fa) [.ref a, .ref b]) (PySem.W.CmpBack (EP X pins σ Q)) X.xe s := by
  obtain ⟨fd, F, hb⟩ := F.ex
  have r2 : Vals [V.ref a, V.ref b] [Value.ref a, Value.ref b] := .cons rfl (.cons rfl .nil)
  refine wpAny_call (codeAny_mono (F.run X.A X.stack s H ⟨[.ref a, .ref b], []⟩ [.ref a, .ref b] [.ref a, .ref b] Q E0 hr I.env0 (by
    have := hb s [.ref a, .ref b] I.kIn (by simpa using h2.symm)
    simpa using this) r2 h) fun r s' hq => ?_)
  cases r with
  | error e => exact hq.elim
  | ok fl =>
    cases fl with
    | ret w =>
      obtain ⟨z, H', I', rz, ez⟩ := I.after hq
      exact SlX.cmpback rz ⟨z, H', I', rz, ez⟩
    | next => exact False.elim hq
    | brk => exact False.elim hq
    | cont => exact False.elim hq
theorem op_cmpOwn {op : CmpOp} (hop : ∀ a b, compareOp op a b = richCompare op a b) (F : GDef X.prog X.w X.K X.mg X.base k fa ps sp) (hr : Room k X.A) (h2 : ps.length = 2)
    (hs : PySem.W.findIn X.K (.ref C) (PySem.cmpInfo op).2.1 = some (some (.ref fa))) (hf : PySem.W.isFn X.K (.ref fa) = true) : OpR X (compareOp op) (rOwnI C (liftSp X.K sp)) := by
  intro pins s σ H x y v u Q I rx ry h
  obtain ⟨a, dx, fs, b, dy, gs, rfl, rfl, ha, hb, q⟩ := h
  cases (show v = Value.ref a from rx)
  cases (show u = Value.ref b from ry)
  obtain ⟨mA, J, _⟩ := ins_get I.hok ha
  obtain ⟨mB, J', _⟩ := ins_get I.hok hb
  obtain ⟨od, J, _⟩ := J.look
  obtain ⟨od', J', _⟩ := J'.look
  obtain ⟨m, hF⟩ := I.fr
  rw [hop]
  refine PySem.W.cmp_K (op := op) (tb := .ref C) hr.units0 hF I.ok.mod.kin J J'.type (by simp [PySem.W.notFirst]) hs hf ?_
  exact run_two F hr I h2 q
theorem op_binOwn {op : Operator} (F : GDef X.prog X.w X.K X.mg X.base k fa ps sp) (hr : Room k X.A) (h2 : ps.length = 2) (hc : PySem.W.selfFirst X.K C = true)
    (hs : PySem.W.findIn X.K (.ref C) (PySem.dunder op.info.2) = some (some (.ref fa))) (hf : PySem.W.isFn X.K (.ref fa) = true) : OpR X (binaryOp op) (rOwnI C (liftSp X.K sp)) := by
  intro pins s σ H x y v u Q I rx ry h
  obtain ⟨a, dx, fs, b, dy, gs, rfl, rfl, ha, hb, q⟩ := h
  cases (show v = Value.ref a from rx)
  cases (show u = Value.ref b from ry)
  obtain ⟨mA, J, _⟩ := ins_get I.hok ha
  obtain ⟨mB, J', _⟩ := ins_get I.hok hb
  obtain ⟨od, J, _⟩ := J.look
  obtain ⟨od', J', _⟩ := J'.look
  obtain ⟨m, hF⟩ := I.fr
  refine PySem.W.binop_K hF I.ok.mod.kin J J'.type hc hs hf ?_
  exact run_two F hr I h2 q
def gOwn (C : Addr) (sp : SpD) : G2 := fun d1 d2 μ P => ∃ g1 g2, insD μ d1 = some (C, g1) ∧ insD μ d2 = some (C, g2) ∧ sp [d1, d2] μ P
theorem od_own : OpD X.K (rOwnI C (liftSp X.K sp)) (gOwn C sp) := by
  intro U H μ x y d1 d2 P Q c r1 r2 ⟨g1, g2, i1, i2, q⟩ kk
  obtain ⟨a, dx, fs, rfl, h1, _, _⟩ := insD_rd c r1 i1
  obtain ⟨b, dy, gs, rfl, h2, _, _⟩ := insD_rd c r2 i2
  exact ⟨a, dx, fs, b, dy, gs, rfl, rfl, h1, h2, U, [d1, d2], μ, P, c, .cons r1 (.cons r2 .nil), q, kk⟩
end
/-! ### isinstance with built-in classes -/
def tyName (μ : Mu) : D → Option String
  | .non => some "NoneType"
  | .bl _ => some "bool"
  | .int _ => some "int"
  | .str _ => some "str"
  | .lst _ => some "list"
  | .tup _ => some "tuple"
  | .dK _ => some "dict"
  | .dT _ => some "dict"
  | .own a => match μ a with
    | some (.lst _) => some "list"
    | some (.dK _) => some "dict"
    | some (.dT _) => some "dict"
    | _ => none
  | _ => none
theorem tyName_V {K : PySem.W.Frag} {H : Hp} {μ : Mu} {U : Hid} {x : V} {d : D} {n : String} (c : ConcM K H μ U) (r : RepV K H μ U x d) (h : tyName μ d = some n) : TyX K H x (.type n) := by
  cases d with
  | non => cases r; cases h; exact .base .non
  | bl b => cases r; cases h; exact .base (.bl _)
  | int i => cases r; cases h; exact .base (.int _)
  | str s => cases r; cases h; exact .base (.str _)
  | lst ds =>
    cases h
    cases r with
    | lst e _ _ _ => exact .base (.lst e)
  | fz ds => cases h
  | tup ds =>
    cases h
    cases r with
    | tup e _ _ _ => exact .base (.tup e)
  | dK g =>
    cases h
    cases r with
    | dK e _ _ _ _ => exact .base (.dK e)
  | dT g =>
    cases h
    cases r with
    | dT e _ _ _ _ => exact .base (.dT e)
  | own a =>
    cases r
    cases q : μ a with
    | none => simp only [tyName, q] at h; cases h
    | some u =>
      simp only [tyName, q] at h
      obtain ⟨_, hr⟩ := c.ob a _ q
      cases u with
      | lst ds => cases h; obtain ⟨vs, e, _⟩ := hr; exact .base (.lst e)
      | dK g => cases h; obtain ⟨vs, e, _⟩ := hr; exact .base (.dK e)
      | dT g => cases h; obtain ⟨vs, e, _⟩ := hr; exact .base (.dT e)
      | ins C g => cases h
  | _ => cases h
def isD (t n : String) : Bool := t == n || (t == "bool" && n == "int")
def kits : List String := ["NoneType", "bool", "int", "str", "list", "tuple", "dict"]
theorem kit_is {K : PySem.W.Frag} {t n : String} (ht : t ∈ kits) (hn : n ∈ kits) : PySem.W.kitOne K (.type t) (.type n) = some (isD t n) := by
  simp only [kits, List.mem_cons, List.not_mem_nil, or_false] at ht hn
  rcases ht with rfl | rfl | rfl | rfl | rfl | rfl | rfl <;> rcases hn with rfl | rfl | rfl | rfl | rfl | rfl | rfl <;> rfl
theorem tyName_kits {μ : Mu} {d : D} {n : String} (h : tyName μ d = some n) : n ∈ kits := by
  cases d with
  | own a =>
    cases q : μ a with
    | none => simp only [tyName, q] at h; cases h
    | some u =>
      simp only [tyName, q] at h
      cases u <;> first | (cases h; decide) | cases h
  | _ => first | (cases h; decide) | cases h
def gIsi : GN := fun ds μ P => ∃ d n t, ds = [d, .ty n] ∧ tyName μ d = some t ∧ n ∈ kits ∧ P (.bl (isD t n)) μ
theorem cd_isi {K : PySem.W.Frag} : CallD K (rIsi K) gIsi := by
  intro U H μ vs ds P Q c r ⟨d, n, t, e, ht, hn, p⟩ k
  subst e
  obtain ⟨v, w, rfl, rv, rw'⟩ := rep2 r
  cases rw'
  exact ⟨v, _, _, _, _, rfl, .ty n, tyName_V c rv ht, kit_is (tyName_kits ht) hn, k _ _ H μ (Step.refl _ _) c (.bl _) p⟩
def gIsiT : GN := fun ds μ P => ∃ d n n2 t, ds = [d, .tup [.ty n, .ty n2]] ∧ tyName μ d = some t ∧ n ∈ kits ∧ n2 ∈ kits ∧ P (.bl (isD t n || isD t n2)) μ
theorem cd_isiT {K : PySem.W.Frag} : CallD K (rIsiT K) gIsiT := by
  intro U H μ vs ds P Q c r ⟨d, n, n2, t, e, ht, hn, hn2, p⟩ k
  subst e
  obtain ⟨v, w, rfl, rv, rw'⟩ := rep2 r
  cases rw' with
  | tup e n1 u1 rl =>
    obtain ⟨x, y, rfl, rx, ry⟩ := rep2 rl
    cases rx
    cases ry
    refine ⟨v, _, _, _, _, _, rfl, e, .cons (.ty n) (.cons (.ty n2) .nil), tyName_V c rv ht, ?_, k _ _ H μ (Step.refl _ _) c (.bl (isD t n || isD t n2)) p⟩
    unfold PySem.W.kitAny PySem.W.kitAny PySem.W.kitAny
    rw [kit_is (tyName_kits ht) hn, kit_is (tyName_kits ht) hn2]
    cases isD t n <;> cases isD t n2 <;> rfl
/-- a built-in class as a value -/
theorem de_ty {X : Cx} {x : Str} {n : String} {pos : Pos} (hg : Gl X x) (hm : X.mg x = none) (hv : bootBuiltins x = some (.type n)) (hn : x ≠ "__name__" := by decide) (hd : (x == ("__debug__" : Str)) = false := by decide) : DE X (.Name x pos) (wC (.ty n)) :=
  de_c (pe_bltn hg hm hv (v := .ty n) rfl hn hd) fun _ _ _ => .ty n
/-! ### by the facts of the top -/
section
variable {X : Cx} {C fa : Addr} {ps : List Str} {sp : SpD} {k : Nat} {a b e : Expr} {pos p : Pos} {wa wb : WE}
theorem de_eqOwn (F : GDef X.prog X.w X.K X.mg X.base k fa ps sp) (hr : Room k X.A) (M : Meth X.K C "__eq__" fa) (ha : DE X a wa) (hb : DE X b wb) (h2 : ps.length = 2 := by rfl) (hm : behindInMarks .Eq b = false := by first | rfl | exact nobehind _ (by decide) (by decide)) :
    DE X (.Compare a [.Eq] [b] pos) (wOp (gOwn C sp) wa wb) := de_cmp (op_cmpOwn (op := .Eq) (fun _ _ => rfl) F hr h2 M.at_ M.fn) od_own ha hb hm
theorem dt_eqOwn (F : GDef X.prog X.w X.K X.mg X.base k fa ps sp) (hr : Room k X.A) (M : Meth X.K C "__eq__" fa) (ha : DE X a wa) (hb : DE X b wb) (h2 : ps.length = 2 := by rfl) (hm : behindInMarks .Eq b = false := by first | rfl | exact nobehind _ (by decide) (by decide)) :
    DT X (.Compare a [.Eq] [b] pos) (wTest (wOp (gOwn C sp) wa wb)) := dt_cmp (op_cmpOwn (op := .Eq) (fun _ _ => rfl) F hr h2 M.at_ M.fn) od_own ha hb hm
theorem de_subOwn (F : GDef X.prog X.w X.K X.mg X.base k fa ps sp) (hr : Room k X.A) (M : Meth X.K C "__sub__" fa) (hc : PySem.W.selfFirst X.K C = true) (ha : DE X a wa) (hb : DE X b wb) (h2 : ps.length = 2 := by rfl) :
    DE X (.BinOp a .Sub b pos) (wOp (gOwn C sp) wa wb) := de_op (op_binOwn (op := .Sub) F hr h2 hc M.at_ M.fn) od_own ha hb
theorem de_andOwn (F : GDef X.prog X.w X.K X.mg X.base k fa ps sp) (hr : Room k X.A) (M : Meth X.K C "__and__" fa) (hc : PySem.W.selfFirst X.K C = true) (ha : DE X a wa) (hb : DE X b wb) (h2 : ps.length = 2 := by rfl) :
    DE X (.BinOp a .BitAnd b pos) (wOp (gOwn C sp) wa wb) := de_op (op_binOwn (op := .BitAnd) F hr h2 hc M.at_ M.fn) od_own ha hb
/-- isinstance(x, C), x an instance of C -/
def gIsC (C : Addr) : GN := fun ds μ P => ∃ d gs, ds = [d, .own C] ∧ insD μ d = some (C, gs) ∧ P (.bl true) μ
theorem cd_isC {K : PySem.W.Frag} {C : Addr} : CallD K (fun xs H Q => ∃ a dx fs, xs = [.ref a, .ref C] ∧ H a = some (.ins C dx fs) ∧ Q (.bl true) H) (gIsC C) := by
  intro U H μ vs ds P Q c r ⟨d, gs, e, hi, p⟩ k
  subst e
  obtain ⟨v, w, rfl, rv, rw'⟩ := rep2 r
  cases rw'
  obtain ⟨a, dx, fs, rfl, h1, _, _⟩ := insD_rd c rv hi
  exact ⟨a, dx, fs, rfl, h1, k _ _ H μ (Step.refl _ _) c (.bl _) p⟩
theorem de_cls {x : Str} {C : Addr} (hm : X.mg x = some (.ref C)) (hg : Gl X x := by rfl) (hdb : (x == ("__debug__" : Str)) = false := by decide) : DE X (.Name x pos) (wC (.own C)) := de_glob (v := .ref C) hg hm rfl (fun _ _ _ => .own C) hdb
end
end L3
/-! L3Sort -/
/-! L3Sort: sorted(a list) over data. -/
namespace L3
open PySem PySem.Spec PyProof.Rows L2 PySem.W
/-- a tree as the model's datum -/
def pyOf (d : D) : PyData := (toPy d).getD .none
theorem toPyL_each {ds : List D} {ps : List PyData} (h : toPyL ds = some ps) : ps = ds.map pyOf ∧ ∀ d ∈ ds, ∃ p, toPy d = some p := by
  induction ds generalizing ps with
  | nil => simp only [toPyL, Option.some.injEq] at h; subst h; exact ⟨rfl, fun d hd => (by cases hd)⟩
  | cons d ds ih =>
    simp only [toPyL] at h
    cases h1 : toPy d with
    | none => simp [h1] at h
    | some a =>
      cases h2 : toPyL ds with
      | none => simp [h1, h2] at h
      | some b =>
        simp only [h1, h2, Option.some.injEq] at h
        subst h
        obtain ⟨e, f⟩ := ih h2
        refine ⟨?_, fun z hz => ?_⟩
        · rw [List.map_cons, ← e]
          unfold pyOf
          rw [h1]
          rfl
        · rcases List.mem_cons.mp hz with rfl | hz
          · exact ⟨a, h1⟩
          · exact f z hz
/-- sorted(xs): the items' data ds; the order by the data -/
def rSortD (K : PySem.W.Frag) : List V → Hp → VK → Prop := fun vs H Q => ∃ (a : Addr) (bs : List (V × PyData)), vs = [V.ref a] ∧ SqL K H a (bs.map (·.1)) ∧ (∀ b ∈ bs, Dp K H b.1 b.2) ∧ AllAlike (bs.map (·.2)) ∧ Sortable (bs.map (·.2)) ∧ bs.length ≤ sizeLine ∧ (∀ b ∈ bs, b.2.depth ≤ 50) ∧
  ∀ (p : Addr), H p = none → Q (.ref p) (upd H p (.lst ((bs.mergeSort (dataLe false (·.2))).map (·.1))))
theorem vals_each {P : V × PyData → Value → Prop} : ∀ {bs : List (V × PyData)} {us : List Value}, Vals (bs.map (·.1)) us → (∀ b ∈ bs, ∀ u, RelV b.1 u → P b u) → EachIs (fun u b => RelV b.1 u ∧ P b u) us bs
  | [], _, r, _ => by cases r; exact .nil
  | b :: bs, _, r, h => by
    rw [List.map_cons] at r
    cases r with
    | cons r1 r2 => exact .cons ⟨r1, h b List.mem_cons_self _ r1⟩ (vals_each r2 fun c hc => h c (List.mem_cons_of_mem _ hc))
theorem each_vals : ∀ {bs : List (V × PyData)} {us : List Value}, EachIs (fun u b => RelV b.1 u) us bs → Vals (bs.map (·.1)) us
  | _, _, .nil => .nil
  | _, _, .cons r t => .cons r (each_vals t)
theorem cr_sortD {X : Cx} (hu : X.A.units + 64 < cLine) : CallR X (.builtin "sorted") (rSortD X.K) := by
  intro pins s σ H vs us Q I r h
  obtain ⟨a, bs, rfl, hs, hd, hal, hk, hL, hdep, q⟩ := h
  obtain ⟨its, rv, hl, hz⟩ := I.list hs
  rw [Vals.ref1 r]
  have e1 := vals_each (P := fun b u => ∃ as, Reads s.heap u b.2 as) rv fun b hb u ru => Dp.reads I b.2 b.1 u (hd b hb) ru
  refine PySem.W.sorted_data (R := fun u (b : V × PyData) => RelV b.1 u) (enc := fun (b : V × PyData) => b.2) hl.isList (e1.mono fun _ _ z => z.1) (e1.mono fun _ _ z => z.2) hal hk hL (fun b hb => ?_) fun out ho eo => ?_
  · have := hdep b hb
    have : PyData.depth (b.2) ≤ 50 := this
    omega
  · obtain ⟨ep, he'⟩ := PyProof.Rows.sortedAll_at s.heap its out.toArray
    have hlen : ((bs.mergeSort (dataLe false (·.2))).map (·.1)).length ≤ sizeLine := by rw [List.length_map, List.length_mergeSort]; exact hL
    exact ⟨.ref _, upd H (s.heap.objs.size + 1) (.lst ((bs.mergeSort (dataLe false (·.2))).map (·.1))), I.laid (t' := s.toks) (fun _ _ => PyProof.Rows.sortedAll_old) (Nat.le_succ _) ⟨hlen, out, ep, each_vals eo, by simpa using he'⟩, rfl, q _ (I.hok.fresh (Nat.le_succ _))⟩
/-- sorted(x), x a list of trees -/
def gSort : GN := fun ds μ P => ∃ d xs ps, ds = [d] ∧ walkL μ d = some xs ∧ toPyL xs = some ps ∧ AllAlike ps ∧ Sortable ps ∧ xs.length ≤ lim ∧ (∀ p ∈ ps, p.depth ≤ 50) ∧ P (.lst (xs.mergeSort (dataLe false pyOf))) μ
theorem zip_fst {α β : Type} : ∀ {xs : List α} {ys : List β}, xs.length = ys.length → (xs.zip ys).map (·.1) = xs
  | [], [], _ => rfl
  | a :: xs, b :: ys, h => by rw [List.zip_cons_cons, List.map_cons, zip_fst (Nat.succ.inj h)]
theorem zip_snd {α β : Type} : ∀ {xs : List α} {ys : List β}, xs.length = ys.length → (xs.zip ys).map (·.2) = ys
  | [], [], _ => rfl
  | a :: xs, b :: ys, h => by rw [List.zip_cons_cons, List.map_cons, zip_snd (Nat.succ.inj h)]
theorem RepL.of_zip {K : PySem.W.Frag} {H : Hp} {μ : Mu} {U : Hid} : ∀ {zs : List (V × D)}, (∀ z ∈ zs, RepV K H μ U z.1 z.2) → RepL K H μ U (zs.map (·.1)) (zs.map (·.2))
  | [], _ => .nil
  | z :: zs, h => .cons (h z List.mem_cons_self) (RepL.of_zip fun y hy => h y (List.mem_cons_of_mem _ hy))
theorem RepL.to_zip {K : PySem.W.Frag} {H : Hp} {μ : Mu} {U : Hid} : ∀ {vs : List V} {ds : List D}, RepL K H μ U vs ds → ∀ z ∈ vs.zip ds, RepV K H μ U z.1 z.2
  | _, _, .nil, z, h => by cases h
  | _, _, .cons r t, z, h => by
    rw [List.zip_cons_cons] at h
    rcases List.mem_cons.mp h with rfl | h
    · exact r
    · exact RepL.to_zip t z h
theorem cd_sortD {K : PySem.W.Frag} : CallD K (rSortD K) gSort := by
  intro U H μ vs ds P Q c r ⟨d, xs, ps, e, hw, hp, hal, hk, hL, hdep, p⟩ k
  subst e
  obtain ⟨v, rfl, rv⟩ := rep1 r
  obtain ⟨a, ws, rfl, hq, rl⟩ := walkL_rd c rv hw
  obtain ⟨ep, hex⟩ := toPyL_each hp
  subst ep
  have hl := rl.length
  let zs := ws.zip xs
  have z1 : zs.map (·.1) = ws := zip_fst hl
  have z2 : zs.map (·.2) = xs := zip_snd hl
  let bs : List (V × PyData) := zs.map fun z => (z.1, pyOf z.2)
  have b1 : bs.map (·.1) = ws := by
    show (zs.map fun z => (z.1, pyOf z.2)).map (·.1) = ws
    rw [List.map_map]
    exact z1
  have b2 : bs.map (·.2) = xs.map pyOf := by
    show (zs.map fun z => (z.1, pyOf z.2)).map (·.2) = _
    rw [List.map_map, ← z2, List.map_map]
    rfl
  have hz : ∀ z ∈ zs, RepV K H μ U z.1 z.2 := RepL.to_zip rl
  have mx : ∀ z ∈ zs, z.2 ∈ xs := fun z h => by rw [← z2]; exact List.mem_map_of_mem h
  have hb : ∀ b ∈ bs, ∃ z ∈ zs, b = (z.1, pyOf z.2) := fun b hb => by
    obtain ⟨z, h1, h2⟩ := List.mem_map.mp hb
    exact ⟨z, h1, h2.symm⟩
  refine ⟨a, bs, rfl, by rw [b1]; exact hq, fun b h => ?_, by rw [b2]; exact hal, by rw [b2]; exact hk, ?_, fun b h => ?_, fun q hq' => ?_⟩
  · obtain ⟨z, h1, rfl⟩ := hb b h
    obtain ⟨p', e'⟩ := hex _ (mx z h1)
    have : pyOf z.2 = p' := by unfold pyOf; rw [e']; rfl
    show Dp K H z.1 (pyOf z.2)
    rw [this]
    exact toPy_Dp (hz z h1) e'
  · have : bs.length = xs.length := by rw [← z2]; show (zs.map _).length = _; rw [List.length_map, List.length_map]
    rw [this]
    exact lim_le hL
  · obtain ⟨z, h1, rfl⟩ := hb b h
    exact hdep _ (List.mem_map_of_mem (mx z h1))
  · have m1 : (bs.mergeSort (dataLe false (·.2))).map (·.1) = (zs.mergeSort (dataLe false fun z => pyOf z.2)).map (·.1) := by
      have := List.map_mergeSort (r := dataLe false fun z : V × D => pyOf z.2) (s := dataLe false fun b : V × PyData => b.2) (f := fun z : V × D => (z.1, pyOf z.2)) (l := zs) (fun a _ b _ => rfl)
      show ((zs.map fun z => (z.1, pyOf z.2)).mergeSort _).map _ = _
      rw [← this, List.map_map]
      rfl
    have m2 : xs.mergeSort (dataLe false pyOf) = (zs.mergeSort (dataLe false fun z => pyOf z.2)).map (·.2) := by
      have := List.map_mergeSort (r := dataLe false fun z : V × D => pyOf z.2) (s := dataLe false pyOf) (f := fun z : V × D => z.2) (l := zs) (fun a _ b _ => rfl)
      rw [← z2, ← this]
    rw [m1]
    rw [m2] at p
    exact (new_tree c k (RepL.of_zip fun z h => hz z ((List.mergeSort_perm _ _).mem_iff.mp h)) hq').1 p
end L3
/-! L3Comp -/
/-! L3Comp: one rule for comprehensions that fill an object at D turn by turn: dicts with keys of any kind, sets of tuples. -/
namespace L3
open PySem PySem.Spec PyProof.Rows L2

/-- the reading: tl says what one turn asks for (D, slots, heap, what must hold behind it) -/
def tCm (h0 : Addr → HO) (wi : TI) (g : TG) (tt : TT) (vs : List Nat) (tl : Addr → L2.St → Hp → (Hp → Prop) → Prop) : TE := fun σ H Q => wi σ H fun J H1 => ∀ D, H1 D = none → ∃ W : Nat → Nat → Hp → Prop, (∃ m, W 0 m (upd H1 D (h0 D))) ∧
  ∀ i m H, W i m H → (J.stop i H ∧ Q (.ref D) H) ∨ (J.go i H ∧ ∃ Nx : Hp → Prop, (∀ H', Nx H' → ∃ m', m' < m ∧ W (i + 1) m' H') ∧ ∀ x H', J.yld i H x H' → g x (wipe σ vs) H' fun σ2 H2 => wipe σ2 vs = wipe σ vs ∧ tt σ2 H2 fun b H3 =>
    if b = true then tl D σ2 H3 Nx else Nx H3)
abbrev TlT := Addr → PySem.Env → (Shared → Prop) → (Value → Shared → Prop) → Shared → Prop
/-- what the kind of comprehension must bring -/
structure CmKind (X : Cx) (c tg iter : Expr) (ifs : List Expr) (mk : Sem Value) (o0 : Obj) (h0 : Addr → HO) (Tl : TlT) : Prop where
  new : ∀ {E : Value → Shared → Prop} {s : Shared} {Q : Value → Shared → Prop}, Q (.ref s.heap.objs.size) { s with heap := s.heap.push o0 } → wpAny (model X.prog X.w) X.A mk Q E s
  ob : ∀ (H : Hp) (h : Heap), sysModules < h.objs.size → ObjOk X.prog X.w H (h.push o0) h.objs.size (h0 h.objs.size)
  start : ∀ {env : PySem.Env} {R : Result → Shared → Prop} {s : Shared} {it : Value} {D : Addr}, codeAny (model X.prog X.w) X.A (.compLoop c 0 it (.ref D) env) R s →
    wpAny (model X.prog X.w) X.A (pyIter it) (fun it' s' => codeAny (model X.prog X.w) X.A (.compLoop c 0 it' (.ref D) env) R s') (notedBy (model X.prog X.w) X.A env fun x s' => R (.error x) s') s → codeAny (model X.prog X.w) X.A (.compStart c 0 it (.ref D) env) R s
  loop : ∀ {env : PySem.Env} {R : Result → Shared → Prop} {s : Shared} {it : Value} {D : Addr} (I : Nat → Shared → Prop),
    (∀ n s, I n s → wpAny (model X.prog X.w) X.A (pyNext it) (fun r s₁ => match r with
      | none => R (.ok .next) s₁
      | some v => wpAny (model X.prog X.w) X.A (letOwnedTupleGo tg it v) (fun _ s₁' => wpAny (model X.prog X.w) X.A (assign tg env v) (fun _ s₂ =>
          wpAny (model X.prog X.w) X.A (forIn ifs true fun c r => if r = true then do let ok ← isTrue c env (eval c env); pure (ForInStep.yield ok) else pure (ForInStep.yield r)) (fun ok s₃ =>
            if ok = true then Tl D env (fun s' => ∃ m, m < n ∧ I m s') (notedBy (model X.prog X.w) X.A env fun e s' => R (.error e) s') s₃
            else ∃ m, m < n ∧ I m s₃) (notedBy (model X.prog X.w) X.A env fun e s' => R (.error e) s') s₂) (notedBy (model X.prog X.w) X.A env fun e s' => R (.error e) s') s₁') (notedBy (model X.prog X.w) X.A env fun e s' => R (.error e) s') s₁) (notedBy (model X.prog X.w) X.A env fun e s' => R (.error e) s') s) →
    ∀ n, I n s → codeAny (model X.prog X.w) X.A (.compLoop c 0 it (.ref D) env) R s
section
variable {X : Cx}
/-- THE RULE -/
theorem pe_cm {c : Expr} {mk : Sem Value} {o0 : Obj} {h0 : Addr → HO} {Tl : TlT} {tl : Addr → L2.St → Hp → (Hp → Prop) → Prop} {tg iter : Expr} {ifs : List Expr} {gs : List Comprehension} {scope : Scope} {own : List (Str × Nat)} {pos' : Pos} {wi : TI} {g : TG} {tt : TT}
    (k : CmKind X c tg iter ifs mk o0 h0 Tl) (hc : X.calm = true) (hN : X.N.Nodup) (hi : PI X tg iter wi) (ok : BlkOk X.N X.env.scope scope own)
    (hg : ∀ (s : Shared) (H : Hp) (C : Addr) (cl : List (Str × Addr)) (fp : List Addr), PG (X.blk s H scope (compEnvC scope cl C X.env) fp) tg g) (ht : ∀ (s : Shared) (H : Hp) (C : Addr) (cl : List (Str × Addr)) (fp : List Addr), PTs (X.blk s H scope (compEnvC scope cl C X.env) fp) ifs tt)
    (tail : ∀ (s : Shared) (H : Hp) (C : Addr) (cl : List (Str × Addr)) (fp : List Addr) (D : Addr) (pins : List (Addr × Obj)) (σ2 : L2.St) (H2 : Hp) (s2 : Shared) (Nx : Hp → Prop) (G : Shared → Prop) (E : Value → Shared → Prop), Inv (X.blk s H scope (compEnvC scope cl C X.env) fp) pins σ2 H2 s2 → tl D σ2 H2 Nx →
      (∀ s3 H3, Inv (X.blk s H scope (compEnvC scope cl C X.env) fp) pins σ2 H3 s3 → Nx H3 → G s3) → (∀ e s', (X.blk s H scope (compEnvC scope cl C X.env) fp).xe e s' → E e s') → Tl D (compEnvC scope cl C X.env) G E s2)
    (hs : ∀ x, foldedSetIterable iter X.env x = pure x) (hev : eval c X.env = comprehension c scope X.env pos' mk false (eval iter X.env)) (hcl : clausesOf c = ⟨tg, iter, ifs, 0⟩ :: gs) : PE X c (tCm h0 wi g tt (own.map (·.2)) tl) := by
  refine ⟨fun pins s σ H Q I h => ?_⟩
  rw [hev]
  have hfree : ∀ y ∈ scope.names, y.2 = .free → ∃ c, X.env.cells.lookup y.1 = some c := fun y hy e => I.ok.has _ (ok.free y hy e)
  refine wpAny_comprehension_free (use := none) hcl hs (closure_ok hfree) ok.kind (fun y hy e => by rw [ok.uniq y hy, e])
    (thn (hi.run pins s σ H _ I h) fun xv s1 hx => thn hx fun itv s2 h2 => ?_)
  obtain ⟨it, fp, tn, J, H2, e, I2, T, st2, f2, q⟩ := h2
  subst e
  refine k.new (newEnv_comp ?_)
  generalize hD : s2.heap.objs.size = D
  have hDn : H2 D = none := I2.hok.fresh (Nat.le_of_eq hD)
  obtain ⟨W, ⟨m0, w0⟩, turn⟩ := q D hDn
  generalize hs3 : ({ s2 with heap := s2.heap.push o0 } : Shared) = s3
  generalize hH3 : upd H2 D (h0 D) = H3 at w0
  have h3 : s3.heap = s2.heap.push o0 := by rw [← hs3]
  have I3 : Inv X pins σ H3 s3 := by
    rw [← hs3, ← hH3]
    refine I2.laid (t' := s2.toks) (fun b o e => Heap.get?_push_of_some _ e) (Nat.le_of_eq hD) ?_
    rw [← hD]
    exact k.ob _ _ I2.big
  have f3 : ∀ b ∈ fp, FpOk X pins H3 b ∧ b < s3.heap.objs.size := fun b hb => by
    obtain ⟨o, e, _⟩ := T.obj _ _ st2 b hb
    have hlt : b < s2.heap.objs.size := Heap.lt_size e
    refine ⟨⟨?_, (f2 b hb).2⟩, by rw [h3, Heap.size_push]; exact Nat.lt_succ_of_lt hlt⟩
    rw [← hH3, upd_ne (by rw [← hD]; exact Nat.ne_of_lt hlt)]
    exact (f2 b hb).1
  have st3 : tn 0 s3.heap := T.keep _ _ _ st2 fun b _ o e => by rw [h3]; exact Heap.get?_push_of_some _ e
  have I4 := block_start I3 ok hN f3
  generalize hcl' : cellsFrom (s3.heap.objs.size + 1) scope.names (cloFrom X.env.cells scope.names []) = cls at I4
  have pg := hg s3 H3 s3.heap.objs.size cls fp
  have pt := ht s3 H3 s3.heap.objs.size cls fp
  have ptl := tail s3 H3 s3.heap.objs.size cls fp
  show codeAny _ _ (.compStart c 0 (.ref it) (.ref D) (compEnvC scope cls s3.heap.objs.size X.env)) (compPost (model X.prog X.w) X.A X.xe none _ (.ref D) s3.heap.objs.size) { s3 with heap := pushCells (s3.heap.push { cls := .type "dict", data := .dict #[] }) scope.names }
  generalize hce : compEnvC scope cls s3.heap.objs.size X.env = ce at I4 pg pt ptl
  have cL : ce.locals = s3.heap.objs.size := by subst hce; rfl
  generalize hs4 : ({ s3 with heap := pushCells (s3.heap.push { cls := .type "dict", data := .dict #[] }) scope.names } : Shared) = s4 at I4
  have st4 : tn 0 s4.heap := T.keep _ _ _ st3 fun b _ o e => by rw [← hs4]; exact pushCells_keeps _ _ _ _ (Heap.get?_push_of_some _ e)
  have stat : ∀ {σ' : L2.St} {H' : Hp} {s' : Shared}, Inv (X.blk s3 H3 scope ce fp) [] σ' H' s' → (∀ b ∈ fp, H' b = none) → ∀ b ∈ fp, FpOk (X.blk s3 H3 scope ce fp) [] H' b := fun {σ' H' s'} I' hn b hb =>
    ⟨hn b hb, (I'.ok.exf b hb).1, I'.ok.exfs b hb, .inl hb, fun x c e => (I'.ok.exf b hb).2 x c e, fun p hp => absurd (show p ∈ ([] : List (Addr × Obj)) ++ [] from hp) (by simp)⟩
  have loop : codeAny (model X.prog X.w) X.A (.compLoop c 0 (.ref it) (.ref D) ce) (compPost (model X.prog X.w) X.A X.xe none (EP X pins σ Q) (.ref D) s3.heap.objs.size) s4 := by
    refine k.loop (fun n s' => ∃ i H', Inv (X.blk s3 H3 scope ce fp) [] (wipe σ (own.map (·.2))) H' s' ∧ tn i s'.heap ∧ (∀ b ∈ fp, H' b = none) ∧ W i n H') ?_ m0 ⟨0, H3, I4, st4, fun b hb => (f3 b hb).1.1, w0⟩
    rintro n s5 ⟨i, H5, I5, st5, n5, w5⟩
    rcases turn i n H5 w5 with ⟨stop, qq⟩ | ⟨go, Nx, hNx, step⟩
    · refine thnF (T.done (X.blk s3 H3 scope ce fp) rfl rfl rfl hc i [] s5 _ H5 (fun _ _ => False) I5 (stat I5 n5) st5 stop) fun r s6 ⟨hr, I6⟩ => ?_
      subst hr
      have I7 : Inv X pins σ H5 s6 := I3.call' (ch := fp) I6.os I6.base I6.hok I6.bare fun b hb => ⟨(f3 b hb).1.2.2.2.1, (f3 b hb).1.2.1, (f3 b hb).1.2.2.2.2.1, (f3 b hb).1.2.2.2.2.2⟩
      have nC : H5 s3.heap.objs.size = none := by
        have z : H5 ce.locals = none := I6.free
        rw [cL] at z
        exact z
      obtain ⟨m, hn, _⟩ := I6.loc
      have hn : s6.heap.Ns ce.locals m := hn
      rw [cL] at hn
      obtain ⟨f0, f1, _, f3', f4, f5⟩ := I3.fpOk (Nat.le_refl _) nC
      exact ⟨m, hn, fun h'' sb => ⟨.ref D, H5, I7.turned (t' := s6.toks) (fun b o hb e => (sb.2 b hb).trans e) f0 f1 f3' f4 f5, rfl, qq⟩⟩
    · refine thnF (T.item (X.blk s3 H3 scope ce fp) rfl rfl rfl hc i [] s5 _ H5 (fun _ _ => False) I5 (stat I5 n5) st5 go) fun r s6 ⟨u, hr, h6⟩ => ?_
      subst hr
      refine thnF h6 fun _ s7 ⟨x, H7, I7, r7, y7, st7, n7⟩ => ?_
      have I7' := I7.pinned (stat I7 n7) (T.obj _ _ st7)
      refine thnF (pg.run _ s7 _ H7 x u _ I7' r7 (step x H7 y7)) fun _ s8 ⟨σ8, H8, I8, hw8, q8⟩ => ?_
      refine thnF (pt.run _ s8 σ8 H8 _ I8 q8) fun b s9 ⟨H9, I9, q9⟩ => ?_
      have fin : ∀ (s' : Shared) (H' : Hp), Inv (X.blk s3 H3 scope ce fp) ([] ++ pinsAt fp s7.heap) σ8 H' s' → Nx H' → ∃ m, m < n ∧ ∃ i H', Inv (X.blk s3 H3 scope ce fp) [] (wipe σ (own.map (·.2))) H' s' ∧ tn i s'.heap ∧ (∀ b ∈ fp, H' b = none) ∧ W i m H' := fun s' H' I' nx => by
        obtain ⟨m', hm, w'⟩ := hNx H' nx
        have pin' : ∀ b ∈ fp, ∀ o, s7.heap.get? b = some o → s'.heap.get? b = some o ∧ H' b = none := fun b hb o e =>
          let z := I'.pin (b, o) (List.mem_append_right _ (List.mem_append_right _ (mem_pinsAt hb e)))
          ⟨z.1, z.2.1⟩
        have hl : (wipe σ (own.map (·.2))).length = σ8.length := by rw [← hw8, wipe_length]
        refine ⟨m', hm, i + 1, H', (I'.unpinned (pins := [])).weak hl (fun j v e => ?_), T.keep _ _ _ st7 fun b hb o e => (pin' b hb o e).1, fun b hb => ?_, w'⟩
        · rw [← hw8] at e
          exact (wipe_some e).1
        · obtain ⟨o, e, _⟩ := T.obj _ _ st7 b hb
          exact (pin' b hb o e).2
      cases b with
      | false =>
        simp only [Bool.false_eq_true, if_false] at q9 ⊢
        exact fin _ _ I9 q9
      | true =>
        simp only [if_true] at q9 ⊢
        exact ptl D _ σ8 H9 s9 Nx _ _ I9 q9 fin fun e s' z => z.elim
  exact k.start loop (T.self X.A 0 _ _ _ st4 loop)

/-! ### {k: v for ..} -/
def tlD (tk tv : TE) : Addr → L2.St → Hp → (Hp → Prop) → Prop := fun D σ H Nx => tk σ H fun y H4 => tv σ H4 fun z H5 => ∃ H6, DPut H5 D y z H6 ∧ Nx H6
def TlD (X : Cx) (kx vx : Expr) : TlT := fun D env G E s => wpAny (model X.prog X.w) X.A (eval kx env) (fun kv s₄ => wpAny (model X.prog X.w) X.A (eval vx env) (fun vv s₅ => wpAny (model X.prog X.w) X.A (dictSet D kv vv) (fun _ s' => G s') E s₅) E s₄) E s
theorem cmD {kx vx tg iter : Expr} {ifs : List Expr} {scope : Scope} {pos : Pos} {ho : HO} (hh : ho = .dK [] ∨ ho = .dT []) : CmKind X (.DictComp kx vx [⟨tg, iter, ifs, 0⟩] scope pos) tg iter ifs newDict { cls := .type "dict", data := .dict #[] } (fun _ => ho) (TlD X kx vx) where
  new := fun h => wpAny_newObj_type h
  ob := fun H h hb => by
    rcases hh with e | e
    · subst e; exact dk_empty h hb
    · subst e; exact dt_empty h hb
  start := codeAny_compStart_dict
  loop := fun I turn n h => compLoop_anyD I turn n h
end
end L3
/-! L3Dict -/
/-! L3Dict: dicts over data: new, d[k], in, setdefault, comprehensions, sorted(d); keys ints and texts, or tuples of them. -/
namespace L3
open PySem PySem.Spec PyProof.Rows L2
def kD : Key → D
  | .inl i => .int i
  | .inr x => .str x
section
variable {κ α : Type} [DecidableEq κ]
def lookG (g : List (κ × α)) (k : κ) : Option α := (g.find? fun kv => decide (kv.1 = k)).map (·.2)
def putG (g : List (κ × α)) (k : κ) (z : α) : List (κ × α) := if (g.any fun kv => decide (kv.1 = k)) = true then g.map (fun kv => if kv.1 = k then (kv.1, z) else kv) else g ++ [(k, z)]
theorem putG_length (g : List (κ × α)) (k : κ) (z : α) : (putG g k z).length ≤ g.length + 1 := by
  unfold putG
  split
  · rw [List.length_map]; omega
  · rw [List.length_append]; exact Nat.le_refl _
end
section
variable {K : PySem.W.Frag} {H : Hp} {μ : Mu} {U : Hid} {κ : Type} [DecidableEq κ]
theorem rep_key {y : V} {k : Key} (r : RepV K H μ U y (kD k)) : y = kV k := by
  cases k <;> (cases r; rfl)
theorem rep_keys : ∀ {ks : List Key} {vs : List V}, RepL K H μ U vs (ks.map kD) → vs = ks.map kV
  | [], _, .nil => rfl
  | k :: ks, _, .cons r t => by rw [rep_key r, rep_keys t]; rfl
theorem rep_tkey {y : V} {ks : List Key} (r : RepV K H μ U y (.tup (ks.map kD))) : ∃ b, y = .ref b ∧ H b = some (.tup (ks.map kV)) := by
  cases r with
  | tup h n u rl =>
    rw [rep_keys rl] at h
    exact ⟨_, rfl, h⟩
theorem look_rep : ∀ {fs : List (κ × V)} {g : List (κ × D)} (k : κ), fs.map (·.1) = g.map (·.1) → RepL K H μ U (fs.map (·.2)) (g.map (·.2)) → (∀ z, lookG g k = some z → ∃ v, valV fs k = some v ∧ RepV K H μ U v z) ∧ (lookG g k = none → valV fs k = none)
  | [], [], k, _, _ => ⟨fun z h => (by cases h), fun _ => rfl⟩
  | [], _ :: _, _, e, _ => by cases e
  | _ :: _, [], _, e, _ => by cases e
  | (i, v) :: fs, (j, z) :: g, k, e, r => by
    rw [List.map_cons, List.map_cons] at e r
    obtain ⟨e1, e2⟩ := List.cons.inj e
    have e1 : i = j := e1
    subst e1
    cases r with
    | cons r1 r2 =>
      obtain ⟨h1, h2⟩ := look_rep k e2 r2
      unfold lookG valV at h1 h2 ⊢
      by_cases q : i = k
      · rw [List.find?_cons_of_pos (by simpa using q), List.find?_cons_of_pos (by simpa using q)]
        exact ⟨fun z' h => ⟨v, rfl, by cases h; exact r1⟩, fun h => by cases h⟩
      · rw [List.find?_cons_of_neg (by simpa using q), List.find?_cons_of_neg (by simpa using q)]
        exact ⟨h1, h2⟩
theorem keys_any {α β : Type} {fs : List (κ × α)} {g : List (κ × β)} (k : κ) (e : fs.map (·.1) = g.map (·.1)) : (fs.any fun kv => decide (kv.1 = k)) = g.any fun kv => decide (kv.1 = k) := by
  have : ∀ {γ : Type} (l : List (κ × γ)), (l.any fun kv => decide (kv.1 = k)) = (l.map (·.1)).any fun x => decide (x = k) := fun l => by rw [List.any_map]; rfl
  rw [this, this, e]
theorem put_keys {α β : Type} {fs : List (κ × α)} {g : List (κ × β)} (k : κ) (v : α) (z : β) (e : fs.map (·.1) = g.map (·.1)) : (putG fs k v).map (·.1) = (putG g k z).map (·.1) := by
  unfold putG
  rw [keys_any k e]
  split
  · have : ∀ {γ : Type} (w : γ) (l : List (κ × γ)), (l.map (fun kv => if kv.1 = k then (kv.1, w) else kv)).map (·.1) = l.map (·.1) := fun w l => by
      rw [List.map_map]
      refine List.map_congr_left fun x _ => ?_
      show (if x.1 = k then (x.1, w) else x).1 = x.1
      split <;> rfl
    rw [this, this, e]
  · rw [List.map_append, List.map_append, e]; rfl
theorem putG_V (fs : List (κ × V)) (k : κ) (v : V) : putK fs k v = putG fs k v := rfl
theorem map_vals {v : V} {z : D} (rv : RepV K H μ U v z) (k : κ) : ∀ {fs : List (κ × V)} {g : List (κ × D)}, fs.map (·.1) = g.map (·.1) → RepL K H μ U (fs.map (·.2)) (g.map (·.2)) →
    RepL K H μ U ((fs.map fun kv => if kv.1 = k then (kv.1, v) else kv).map (·.2)) ((g.map fun kv => if kv.1 = k then (kv.1, z) else kv).map (·.2))
  | [], [], _, _ => .nil
  | [], _ :: _, e, _ => by cases e
  | _ :: _, [], e, _ => by cases e
  | p :: fs, q :: g, e, r => by
    rw [List.map_cons, List.map_cons] at e r
    obtain ⟨e1, e2⟩ := List.cons.inj e
    cases r with
    | cons r1 r2 =>
      have t := map_vals rv k e2 r2
      rw [List.map_cons, List.map_cons, List.map_cons, List.map_cons]
      refine .cons ?_ t
      have e1 : p.1 = q.1 := e1
      rw [e1]
      by_cases h : q.1 = k
      · rw [if_pos h, if_pos h]; exact rv
      · rw [if_neg h, if_neg h]; exact r1
theorem put_vals {v : V} {z : D} (rv : RepV K H μ U v z) (k : κ) {fs : List (κ × V)} {g : List (κ × D)} (e : fs.map (·.1) = g.map (·.1)) (r : RepL K H μ U (fs.map (·.2)) (g.map (·.2))) : RepL K H μ U ((putG fs k v).map (·.2)) ((putG g k z).map (·.2)) := by
  unfold putG
  rw [keys_any k e]
  split
  · exact map_vals rv k e r
  · rw [List.map_append, List.map_append]
    exact r.append (.cons rv .nil)
theorem ConcM.tupFree (c : ConcM K H μ U) {b : Addr} {xs : List V} (h : H b = some (.tup xs)) : μ b = none ∧ ¬ U b := by
  refine ⟨?_, fun z => ?_⟩
  · cases e : μ b with
    | none => rfl
    | some u =>
      obtain ⟨_, q⟩ := c.ob b u e
      cases u with
      | lst ds => obtain ⟨_, q, _⟩ := q; rw [h] at q; cases q
      | ins C g => obtain ⟨_, _, q, _⟩ := q; rw [h] at q; cases q
      | dK g => obtain ⟨_, q, _⟩ := q; rw [h] at q; cases q
      | dT g => obtain ⟨_, q, _⟩ := q; rw [h] at q; cases q
  · obtain ⟨o, q, n⟩ := c.fr b z
    rw [h] at q
    exact n xs (Option.some.inj q).symm
end

/-! ### {} -/
section
variable {X : Cx} {pos apos cpos : Pos} {o i e f : Expr}
def wNewT : WE := fun _ μ P => ∀ p, μ p = none → P (.own p) (mset μ p (.dT []))
def wNewK : WE := fun _ μ P => ∀ p, μ p = none → P (.own p) (mset μ p (.dK []))
theorem de_dnewT : DE X (.Dict [] [] pos) wNewT := weakE pe_dnewT fun σ H Q ⟨U, δ, μ, P, c, ce, w, k⟩ p hp =>
  k _ _ _ _ (Step.newM hp) (c.newM (u := .dT []) hp ⟨[], upd_same, rfl, .nil⟩) (.own p) (w p (c.no hp))
theorem de_dnewK : DE X (.Dict [] [] pos) wNewK := weakE pe_dnewK fun σ H Q ⟨U, δ, μ, P, c, ce, w, k⟩ p hp =>
  k _ _ _ _ (Step.newM hp) (c.newM (u := .dK []) hp ⟨[], upd_same, rfl, .nil⟩) (.own p) (w p (c.no hp))

/-! ### d[k], k in d -/
/-- what d has for the key y -/
def DLook (μ : Mu) (d y : D) (r : Option D) : Prop := (∃ g k, dicK μ d = some g ∧ y = kD k ∧ r = lookG g k) ∨ ∃ g ks, dicT μ d = some g ∧ y = .tup (ks.map kD) ∧ r = lookG g ks
theorem dlook_V {K : PySem.W.Frag} {H : Hp} {μ : Mu} {U : Hid} {x y : V} {d z : D} {r : Option D} (c : ConcM K H μ U) (rx : RepV K H μ U x d) (ry : RepV K H μ U y z) (h : DLook μ d z r) :
    ∃ a q, x = .ref a ∧ DGet H a y q ∧ (∀ w, r = some w → ∃ v, q = some v ∧ RepV K H μ U v w) ∧ (r = none → q = none) := by
  rcases h with ⟨g, k, hd, rfl, rfl⟩ | ⟨g, ks, hd, rfl, rfl⟩
  · obtain ⟨a, fs, rfl, h1, e, rl⟩ := dicK_rd c rx hd
    rw [rep_key ry]
    exact ⟨a, valV fs k, rfl, DGet.k h1, look_rep k e rl⟩
  · obtain ⟨a, fs, rfl, h1, e, rl⟩ := dicT_rd c rx hd
    obtain ⟨b, rfl, hb⟩ := rep_tkey ry
    exact ⟨a, valV fs ks, rfl, DGet.t h1 hb, look_rep ks e rl⟩
def gDGet : G2 := fun d y μ P => ∃ z, DLook μ d y (some z) ∧ P z μ
theorem de_dget {wd wk : WE} (hu : X.A.units + 1 < cLine) (ho : DE X o wd) (hi : DE X i wk) (hs : NoSl i := by exact fun _ _ => rfl) : DE X (.Subscript o i pos) (wOp gDGet wd wk) :=
  weakE (pe_dget hu ho hi hs) fun σ H Q ⟨U, δ, μ, P, c, ce, w, k⟩ => ⟨U, δ, μ, _, c, ce, w, fun x d H1 μ1 s1 c1 r1 w1 => ⟨U, δ, μ1, _, c1, ce.step s1, w1, fun y z H2 μ2 s2 c2 r2 ⟨w, hl, p⟩ => by
    obtain ⟨a, q, rfl, g, h1, _⟩ := dlook_V c2 (r1.step s2) r2 hl
    obtain ⟨v, rfl, rv⟩ := h1 _ rfl
    exact ⟨a, v, rfl, g, k _ _ H2 μ2 (s1.trans s2) c2 rv p⟩⟩⟩
/-- k in d, k not in d: the key first -/
def gDIn (neg : Bool) : G2 := fun y d μ P => ∃ r, DLook μ d y r ∧ P (.bl (if neg then !r.isSome else r.isSome)) μ
theorem din_ok {wk wd : WE} {neg : Bool} : ∀ σ H Q, liftE X.K (wOp (gDIn neg) wk wd) σ H Q → (liftE X.K wk) σ H fun y H1 => (liftE X.K wd) σ H1 fun x H2 => ∃ a o, x = .ref a ∧ DGet H2 a y o ∧ Q (.bl (if neg then !o.isSome else o.isSome)) H2 := fun σ H Q ⟨U, δ, μ, P, c, ce, w, k⟩ =>
  ⟨U, δ, μ, _, c, ce, w, fun y z H1 μ1 s1 c1 r1 w1 => ⟨U, δ, μ1, _, c1, ce.step s1, w1, fun x d H2 μ2 s2 c2 r2 ⟨r, hl, p⟩ => by
    obtain ⟨a, q, rfl, g, hq⟩ := dlook_V c2 r2 (r1.step s2) hl
    have e : q.isSome = r.isSome := by
      cases r with
      | none => rw [hq.2 rfl]; rfl
      | some w => obtain ⟨v, rfl, _⟩ := hq.1 _ rfl; rfl
    refine ⟨a, q, rfl, g, ?_⟩
    rw [e]
    exact k _ _ H2 μ2 (s1.trans s2) c2 (.bl _) p⟩⟩
theorem dt_din {wk wd : WE} (hu : X.A.units + 1 < cLine) (hi : DE X i wk) (ho : DE X o wd) (h1 : behindInMarks .In o = false) : DT X (.Compare i [.In] [o] pos) (wTest (wOp (gDIn false) wk wd)) :=
  weakT (pt_cmp (pc_din hu hi ho) h1) fun σ H Q h => by
    have := lift_test (X := X) σ H Q h
    exact din_ok (X := X) (neg := false) _ _ _ this
theorem dt_dnotin {wk wd : WE} (hu : X.A.units + 1 < cLine) (hi : DE X i wk) (ho : DE X o wd) (h1 : behindInMarks .NotIn o = false) : DT X (.Compare i [.NotIn] [o] pos) (wTest (wOp (gDIn true) wk wd)) :=
  weakT (pt_cmp (pc_dnotin hu hi ho) h1) fun σ H Q h => by
    have := lift_test (X := X) σ H Q h
    exact din_ok (X := X) (neg := true) _ _ _ this
end
end L3
/-! L3Dict2 -/
/-! L3Dict2: setdefault, dict comprehensions. -/
namespace L3
open PySem PySem.Spec PyProof.Rows L2
section
variable {X : Cx} {pins : List (Addr × Obj)} {σ : L2.St} {H : Hp} {s : Shared} {a b : Addr} {u r : Value} {d : V} {ks : List Key} {A : Around} {E : Value → Shared → Prop}
/-- d.setdefault(k, x), k a tuple -/
theorem d_setdT {kvs : List (List Key × V)} {Q : Value → Shared → Prop} (hu : A.units + 1 < cLine) (I : Inv X pins σ H s) (e : H a = some (.dT kvs)) (eb : H b = some (.tup (ks.map kV))) (rd : RelV d r) (hl : kvs.length < sizeLine)
    (h1 : ∀ v, valV kvs ks = some v → ∀ (w' : Value) (s' : Shared), Inv X pins σ H s' → RelV v w' → Q w' s') (h2 : valV kvs ks = none → ∀ (w' : Value) (s' : Shared), Inv X pins σ (upd H a (.dT (putK kvs ks d))) s' → RelV d w' → Q w' s') :
    wpAny (model X.prog X.w) A (call (.builtin "dict.setdefault") [.ref a, .ref b, r]) Q E s := by
  obtain ⟨z, hd, xs, rel, dd⟩ := dt_of I.hok e
  have hz : xs.length ≤ sizeLine := by rw [← Paired.length rel]; exact z
  refine call_setdefault_heap (knd := tupleKind (mixKind X.prog X.w)) (tupleKind_room_in1 hu) (key_of I.hok eb) hd dd (fun p hp => ?_) (fun hn h' dd' hs => ?_) hz
  · have q := rel.val ks
    rw [hp] at q
    cases q0 : valV kvs ks with
    | none => rw [q0] at q; exact (show False from q).elim
    | some v0 => rw [q0] at q; exact h1 v0 q0 _ _ (I.tok _) q
  · have q := rel.val ks
    rw [hn] at q
    cases q0 : valV kvs ks with
    | some v0 => rw [q0] at q; exact (show False from q).elim
    | none =>
      have hl2 : (putK kvs ks d).length ≤ sizeLine := by have := length_putK kvs ks d; omega
      obtain ⟨o, es, ep, hq, g2, g3, g4, _, g5⟩ := dd'
      refine h2 q0 _ _ (d_write I (by rw [e]; exact True.intro) hs ⟨o, hq⟩ ⟨hl2, hd, _, (rel.put ks eb rd).keeps fun c ys ec => ?_, o, es, ep, hq, g2, g3, g4, g5⟩) rd
      rw [upd_ne (ne_of ec e (fun z => nomatch z))]
      exact ec
/-- d[k] = v inside a comprehension, keys of either kind -/
theorem d_dictSetD {H' : Hp} {y v : V} {Q : Unit → Shared → Prop} (hu : X.A.units < cLine) (I : Inv X pins σ H s) (g : DPut H a y v H') (ry : RelV y u) (rv : RelV v r) (h : ∀ s', Inv X pins σ H' s' → Q () s') :
    wpAny (model X.prog X.w) X.A (dictSet a u r) Q E s := by
  rcases g with ⟨kvs, k, e, ey, l, eH⟩ | ⟨kvs, k, b, e, ey, eb, l, eH⟩
  · subst ey eH
    exact d_dictSet I e l ry rv h
  · subst ey eH
    cases (show u = Value.ref b from ry)
    obtain ⟨z, hd, xs, rel, dd⟩ := dt_of I.hok e
    have hz : xs.length ≤ sizeLine := by rw [← Paired.length rel]; exact z
    have hl : (putK kvs k v).length ≤ sizeLine := by have := length_putK kvs k v; omega
    refine wpAny_dictSet_heap (knd := tupleKind (mixKind X.prog X.w)) (hsz := hz) (show (tupleKind (mixKind X.prog X.w)).room X.A from hu) (key_of I.hok eb) dd fun h' dd' hs => h _ ?_
    obtain ⟨q, es, ep, hq, h2, h3, h4, _, h5⟩ := dd'
    refine d_write I (by rw [e]; exact True.intro) hs ⟨q, hq⟩ ⟨hl, hd, _, (rel.put k eb rv).keeps fun c ys ec => ?_, q, es, ep, hq, h2, h3, h4, h5⟩
    rw [upd_ne (ne_of ec e (fun z => nomatch z))]
    exact ec
end
/-- a list or tuple-keyed dict's step -/
def tDSetdT (td ty tx : TE) : TE := fun σ H Q => td σ H fun x H1 => ∃ a, x = .ref a ∧ IsD H1 a ∧ ty σ H1 fun y H2 => tx σ H2 fun z H3 => ∃ (kvs : List (List Key × V)) (ks : List Key) (b : Addr), H3 a = some (.dT kvs) ∧ y = .ref b ∧ H3 b = some (.tup (ks.map kV)) ∧ kvs.length < sizeLine ∧
  (∀ v, valV kvs ks = some v → Q v H3) ∧ (valV kvs ks = none → Q z (upd H3 a (.dT (putK kvs ks z))))
section
variable {X : Cx} {o e f : Expr} {td ty tx : TE} {apos cpos : Pos}
theorem pe_dsetdT (hu : X.A.units + 1 < cLine) (ho : PE X o td) (he : PE X e ty) (hf : PE X f tx) (m : M2 X o "setdefault" apos e f cpos) : PE X (.Call (.Attribute o "setdefault" apos) [e, f] [] cpos) (tDSetdT td ty tx) := by
  refine ⟨fun pins s σ H Q I h => ?_⟩
  refine wpAny_Call_method m.base m.few m.line PySem.F.plainAttrs_dict PySem.F.slot_dict_setdefault PySem.F.type_dict_setdefault (thn (ho.run pins s σ H _ I h) fun u s1 ⟨x, H1, I1, rx, a, ex, d, q1⟩ => ?_)
  subst ex
  obtain rfl : u = Value.ref a := rx
  obtain ⟨t1, t2, _⟩ := isD_at I1 d
  refine ⟨t1, t2, ?_⟩
  rw [m.trees]
  refine Calls.callWith_builtin rfl (Calls.evalArgs_plain (Calls.spliced_cons (thn (he.run pins s1 σ H1 _ I1 q1) fun iv s2 ⟨y, H2, I2, ry, q2⟩ =>
    Calls.spliced_cons (thn (hf.run pins s2 σ H2 _ I2 q2) fun fv s3 ⟨z, H3, I3, rz, kvs, ks, b, ea, ey, eb, hl, q3, q4⟩ => Calls.spliced_nil ?_))))
  subst ey
  cases (show iv = Value.ref b from ry)
  exact d_setdT hu I3 ea eb rz hl (fun v hv w' s4 I4 rw' => ⟨v, _, I4, rw', q3 v hv⟩) fun hn w' s4 I4 rw' => ⟨z, _, I4, rw', q4 hn⟩
/-- over data -/
def wDSetdT (wd wk wz : WE) : WE := fun δ μ P => wd δ μ fun d μ1 => ∃ a g1, d = .own a ∧ μ1 a = some (.dT g1) ∧ wk δ μ1 fun y μ2 => wz δ μ2 fun z μ3 => ∃ g ks, μ3 a = some (.dT g) ∧ y = .tup (ks.map kD) ∧ g.length ≤ lim ∧
  (∀ v, lookG g ks = some v → P v μ3) ∧ (lookG g ks = none → P z (mset μ3 a (.dT (putG g ks z))))
theorem de_dsetdT {wd wk wz : WE} (hu : X.A.units + 1 < cLine) (ho : DE X o wd) (he : DE X e wk) (hf : DE X f wz) (m : M2 X o "setdefault" apos e f cpos) : DE X (.Call (.Attribute o "setdefault" apos) [e, f] [] cpos) (wDSetdT wd wk wz) :=
  weakE (pe_dsetdT hu ho he hf m) fun σ H Q ⟨U, δ, μ, P, c, ce, w, k⟩ => ⟨U, δ, μ, _, c, ce, w, fun x d H1 μ1 s1 c1 r1 ⟨a, g1, ed, hm1, w1⟩ => by
    subst ed
    cases r1
    obtain ⟨_, fs1, h1, _⟩ := c1.ob a _ hm1
    refine ⟨a, rfl, .inr ⟨_, .inl h1⟩, U, δ, μ1, _, c1, ce.step s1, w1, fun y z H2 μ2 s2 c2 r2 w2 => ⟨U, δ, μ2, _, c2, (ce.step s1).step s2, w2, fun zv z2 H3 μ3 s3 c3 r3 ⟨g, ks, hm, ey, hl, p1, p2⟩ => ?_⟩⟩
    subst ey
    obtain ⟨b, rfl, hb⟩ := rep_tkey (r2.step s3)
    obtain ⟨_, fs, h3, e3, rl⟩ := c3.ob a _ hm
    have hlen : fs.length = g.length := keys_len e3
    obtain ⟨q1, q2⟩ := look_rep ks e3 rl
    refine ⟨fs, ks, b, h3, rfl, hb, by rw [hlen]; exact lim_lt hl, fun v hv => ?_, fun hn => ?_⟩
    · cases q : lookG g ks with
      | none => rw [q2 q] at hv; cases hv
      | some w0 =>
        obtain ⟨v', e', rv⟩ := q1 w0 q
        rw [hv] at e'
        cases e'
        exact k _ _ H3 μ3 ((s1.trans s2).trans s3) c3 rv (p1 w0 q)
    · cases q : lookG g ks with
      | some w0 =>
        obtain ⟨v', e', rv⟩ := q1 w0 q
        rw [hn] at e'
        cases e'
      | none =>
        have st : Step H3 μ3 (upd H3 a (.dT (putK fs ks zv))) (mset μ3 a (.dT (putG g ks z2))) := Step.write hm
        exact k _ _ _ _ (((s1.trans s2).trans s3).trans st) (c3.write (u := .dT (putG g ks z2)) hm ⟨_, upd_same, put_keys ks zv z2 e3, (put_vals r3 ks e3 rl).step st⟩) (r3.step st) (p2 q)⟩
def wDSetdK (wd wk wz : WE) : WE := fun δ μ P => wd δ μ fun d μ1 => ∃ a g1, d = .own a ∧ μ1 a = some (.dK g1) ∧ wk δ μ1 fun y μ2 => wz δ μ2 fun z μ3 => ∃ g ks, μ3 a = some (.dK g) ∧ y = kD ks ∧ g.length ≤ lim ∧
  (∀ v, lookG g ks = some v → P v μ3) ∧ (lookG g ks = none → P z (mset μ3 a (.dK (putG g ks z))))
theorem de_dsetdK {wd wk wz : WE} (ho : DE X o wd) (he : DE X e wk) (hf : DE X f wz) (m : M2 X o "setdefault" apos e f cpos) : DE X (.Call (.Attribute o "setdefault" apos) [e, f] [] cpos) (wDSetdK wd wk wz) :=
  weakE (pe_dsetd ho he hf m) fun σ H Q ⟨U, δ, μ, P, c, ce, w, k⟩ => ⟨U, δ, μ, _, c, ce, w, fun x d H1 μ1 s1 c1 r1 ⟨a, g1, ed, hm1, w1⟩ => by
    subst ed
    cases r1
    obtain ⟨_, fs1, h1, _⟩ := c1.ob a _ hm1
    refine ⟨a, rfl, .inl ⟨_, .inl h1⟩, U, δ, μ1, _, c1, ce.step s1, w1, fun y z H2 μ2 s2 c2 r2 w2 => ⟨U, δ, μ2, _, c2, (ce.step s1).step s2, w2, fun zv z2 H3 μ3 s3 c3 r3 ⟨g, ks, hm, ey, hl, p1, p2⟩ => ?_⟩⟩
    subst ey
    obtain ⟨_, fs, h3, e3, rl⟩ := c3.ob a _ hm
    have hlen : fs.length = g.length := keys_len e3
    obtain ⟨q1, q2⟩ := look_rep ks e3 rl
    refine ⟨fs, ks, h3, rep_key r2, by rw [hlen]; exact lim_lt hl, fun v hv => ?_, fun hn => ?_⟩
    · cases q : lookG g ks with
      | none => rw [q2 q] at hv; cases hv
      | some w0 =>
        obtain ⟨v', e', rv⟩ := q1 w0 q
        rw [hv] at e'
        cases e'
        exact k _ _ H3 μ3 ((s1.trans s2).trans s3) c3 rv (p1 w0 q)
    · cases q : lookG g ks with
      | some w0 =>
        obtain ⟨v', e', rv⟩ := q1 w0 q
        rw [hn] at e'
        cases e'
      | none =>
        have st : Step H3 μ3 (upd H3 a (.dK (putK fs ks zv))) (mset μ3 a (.dK (putG g ks z2))) := Step.write hm
        exact k _ _ _ _ (((s1.trans s2).trans s3).trans st) (c3.write (u := .dK (putG g ks z2)) hm ⟨_, upd_same, put_keys ks zv z2 e3, (put_vals r3 ks e3 rl).step st⟩) (r3.step st) (p2 q)⟩
end
end L3
/-! L3Dict3 -/
/-! L3Dict3: dict comprehensions over data. -/
namespace L3
open PySem PySem.Spec PyProof.Rows L2
section
variable {X : Cx}
theorem tail_D {kx vx : Expr} {tk tv : TE} {scope : Scope} (hu : X.A.units < cLine) (hk : ∀ (s : Shared) (H : Hp) (C : Addr) (cl : List (Str × Addr)) (fp : List Addr), PE (X.blk s H scope (compEnvC scope cl C X.env) fp) kx tk)
    (he : ∀ (s : Shared) (H : Hp) (C : Addr) (cl : List (Str × Addr)) (fp : List Addr), PE (X.blk s H scope (compEnvC scope cl C X.env) fp) vx tv) (s : Shared) (H : Hp) (C : Addr) (cl : List (Str × Addr)) (fp : List Addr) (D : Addr) (pins : List (Addr × Obj)) (σ2 : L2.St) (H2 : Hp) (s2 : Shared) (Nx : Hp → Prop) (G : Shared → Prop) (E : Value → Shared → Prop)
    (I : Inv (X.blk s H scope (compEnvC scope cl C X.env) fp) pins σ2 H2 s2) (h : tlD tk tv D σ2 H2 Nx) (fin : ∀ s3 H3, Inv (X.blk s H scope (compEnvC scope cl C X.env) fp) pins σ2 H3 s3 → Nx H3 → G s3)
    (hx : ∀ e s', (X.blk s H scope (compEnvC scope cl C X.env) fp).xe e s' → E e s') : TlD X kx vx D (compEnvC scope cl C X.env) G E s2 := by
  refine wpAny_mono ((hk s H C cl fp).run pins s2 σ2 H2 _ I h) (fun kv s4 ⟨y, H4, I4, r4, q4⟩ => ?_) fun e s' z => hx e s' z
  refine wpAny_mono ((he s H C cl fp).run pins s4 σ2 H4 _ I4 q4) (fun vv s5 ⟨z, H5, I5, r5, H6, g, nx⟩ => ?_) fun e s' z => hx e s' z
  exact d_dictSetD (X := X.blk s H scope (compEnvC scope cl C X.env) fp) hu I5 g r4 r5 fun s' I' => fin s' H6 I' nx
theorem pe_dcD {kx vx tg iter : Expr} {ifs : List Expr} {scope : Scope} {own : List (Str × Nat)} {pos : Pos} {wi : TI} {g : TG} {tt : TT} {tk tv : TE} {ho : HO} (hh : ho = .dK [] ∨ ho = .dT []) (hu : X.A.units < cLine) (hc : X.calm = true) (hN : X.N.Nodup) (hi : PI X tg iter wi) (ok : BlkOk X.N X.env.scope scope own)
    (hg : ∀ (s : Shared) (H : Hp) (C : Addr) (cl : List (Str × Addr)) (fp : List Addr), PG (X.blk s H scope (compEnvC scope cl C X.env) fp) tg g) (ht : ∀ (s : Shared) (H : Hp) (C : Addr) (cl : List (Str × Addr)) (fp : List Addr), PTs (X.blk s H scope (compEnvC scope cl C X.env) fp) ifs tt)
    (hk : ∀ (s : Shared) (H : Hp) (C : Addr) (cl : List (Str × Addr)) (fp : List Addr), PE (X.blk s H scope (compEnvC scope cl C X.env) fp) kx tk)
    (he : ∀ (s : Shared) (H : Hp) (C : Addr) (cl : List (Str × Addr)) (fp : List Addr), PE (X.blk s H scope (compEnvC scope cl C X.env) fp) vx tv) (hs : ∀ x, foldedSetIterable iter X.env x = pure x := by intro _; rfl) :
    PE X (.DictComp kx vx [⟨tg, iter, ifs, 0⟩] scope pos) (tCm (fun _ => ho) wi g tt (own.map (·.2)) (tlD tk tv)) :=
  pe_cm (gs := []) (cmD hh) hc hN hi ok hg ht (tail_D hu hk he) hs rfl rfl
end
/-! ### over data -/
section
variable {X : Cx} {pos : Pos} {κ : Type} [DecidableEq κ]
/-- how a dict's keys look: ints and texts; tuples of them -/
structure KeyT (κ : Type) [DecidableEq κ] where
  ho : List (κ × V) → HO
  mo : List (κ × D) → MO
  tr : List (κ × D) → D
  key : κ → D
  get : ∀ (K : PySem.W.Frag) (H : Hp) (μ : Mu) (U : Hid) (y : V) (k : κ) (L : Addr) (fs : List (κ × V)) (v : V), RepV K H μ U y (key k) → H L = some (ho fs) → fs.length < sizeLine → DPut H L y v (upd H L (ho (putG fs k v)))
  rep : ∀ (K : PySem.W.Frag) (H : Hp) (μ : Mu) (U : Hid) (L : Addr) (fs : List (κ × V)) (g : List (κ × D)), H L = some (ho fs) → μ L = none → ¬ U L → fs.map (·.1) = g.map (·.1) → RepL K H μ U (fs.map (·.2)) (g.map (·.2)) → RepV K H μ U (.ref L) (tr g)
  nt : ∀ fs, ntup (ho fs)
  emp : ho [] = .dK [] ∨ ho [] = .dT []
def keyK : KeyT Key where
  ho := .dK
  mo := .dK
  tr := .dK
  key := kD
  get := fun K H μ U y k D fs v r h hl => by rw [rep_key r]; exact DPut.k h hl
  rep := fun K H μ U D fs g h n u e r => .dK h n u e r
  nt := fun fs xs z => by cases z
  emp := .inl rfl
def keyT : KeyT (List Key) where
  ho := .dT
  mo := .dT
  tr := .dT
  key := fun ks => .tup (ks.map kD)
  get := fun K H μ U y k D fs v r h hl => by
    obtain ⟨b, rfl, hb⟩ := rep_tkey r
    exact DPut.t h hb hl
  rep := fun K H μ U D fs g h n u e r => .dT h n u e r
  nt := fun fs xs z => by cases z
  emp := .inr rfl
def dcD (T : KeyT κ) (g : WG) (tt : WT) (tk tv : WE) (vs : List Nat) (chk : Mu → Prop) (P : D → Mu → Prop) (δ : De) : List D → List (κ × D) → Mu → Prop
  | [], acc, μ => chk μ ∧ P (T.tr acc) μ
  | x :: xs, acc, μ => chk μ ∧ g x (wipeD δ vs) fun δ' => tt δ' μ fun b μ1 => if b = true then tk δ' μ1 fun y μ2 => tv δ' μ2 fun z μ3 => ∃ k, y = T.key k ∧ dcD T g tt tk tv vs chk P δ xs (putG acc k z) μ3 else dcD T g tt tk tv vs chk P δ xs acc μ1
def wDc (T : KeyT κ) (wi : WI) (g : WG) (tt : WT) (tk tv : WE) (vs : List Nat) : WE := fun δ μ P => wi δ μ fun ds chk μ1 => ds.length ≤ lim ∧ dcD T g tt tk tv vs chk P δ ds [] μ1
theorem dcD_chk {T : KeyT κ} {g : WG} {tt : WT} {tk tv : WE} {vs : List Nat} {chk : Mu → Prop} {P : D → Mu → Prop} {δ : De} {ds : List D} {acc : List (κ × D)} {μ : Mu} (h : dcD T g tt tk tv vs chk P δ ds acc μ) : chk μ := by
  cases ds with
  | nil => exact h.1
  | cons a r => exact h.1
theorem dc_ok (T : KeyT κ) {wi : WI} {g : WG} {ix : List Nat} {tt : WT} {tk tv : WE} {vs : List Nat} (hix : ∀ i ∈ ix, i ∈ vs) : ∀ σ H Q, liftE X.K (wDc T wi g tt tk tv vs) σ H Q → tCm (fun _ => T.ho []) (liftI X.K wi) (liftG X.K g ix) (liftT X.K tt) vs (tlD (liftE X.K tk) (liftE X.K tv)) σ H Q := by
  rintro σ H Q ⟨U, δ, μ, P, c, e, w, k⟩
  refine ⟨U, δ, μ, _, c, e, w, fun J ds chk H1 μ1 s1 c1 y ⟨hz, f⟩ L hL => ?_⟩
  refine ⟨fun i m H' => m = ds.length - i ∧ i ≤ ds.length ∧ ∃ fs acc μ', Step H1 μ1 H' μ' ∧ ConcM X.K H' μ' (hide U L) ∧ ConcE X.K H' μ' (hide U L) σ δ ∧ H' L = some (T.ho fs) ∧ μ' L = none ∧ fs.map (·.1) = acc.map (·.1) ∧ RepL X.K H' μ' (hide U L) (fs.map (·.2)) (acc.map (·.2)) ∧ acc.length ≤ i ∧
    Keep H1 μ1 U H' μ' (hide U L) ∧ dcD T g tt tk tv vs chk P δ (ds.drop i) acc μ', ⟨ds.length, rfl, Nat.zero_le _, [], [], μ1, Step.new hL, c1.hide hL (T.nt []), (e.step s1).keep (keep_hide hL), upd_same, c1.no hL, rfl, .nil, Nat.le_refl _, keep_hide hL, f⟩, ?_⟩
  rintro i m H' ⟨hm, hi, fs, acc, μ', s', c', e', hL', nL, ek, ra, hacc, kp, f'⟩
  obtain ⟨y1, y2⟩ := y H' μ' (hide U L) kp c' (dcD_chk f') i
  by_cases hlt : i < ds.length
  · obtain ⟨go, yl⟩ := y1 hlt
    refine .inr ⟨go, fun H2 => ∃ fs acc μ2, Step H1 μ1 H2 μ2 ∧ ConcM X.K H2 μ2 (hide U L) ∧ ConcE X.K H2 μ2 (hide U L) σ δ ∧ H2 L = some (T.ho fs) ∧ μ2 L = none ∧ fs.map (·.1) = acc.map (·.1) ∧ RepL X.K H2 μ2 (hide U L) (fs.map (·.2)) (acc.map (·.2)) ∧ acc.length ≤ i + 1 ∧
      Keep H1 μ1 U H2 μ2 (hide U L) ∧ dcD T g tt tk tv vs chk P δ (ds.drop (i + 1)) acc μ2, fun H2 h2 => ⟨ds.length - (i + 1), by omega, rfl, hlt, h2⟩, fun x H2 yx => ?_⟩
    obtain ⟨st, c2, d, hd, rd⟩ := yl x H2 yx
    have ed : ds.drop i = d :: ds.drop (i + 1) := by
      rw [List.drop_eq_getElem_cons hlt]
      rw [List.getElem?_eq_getElem hlt] at hd
      rw [Option.some.inj hd]
    rw [ed] at f'
    have e2 := e'.step st
    refine ⟨hide U L, d, wipeD δ vs, μ', _, c2, e2.wipe vs, rd, f'.2, fun σ3 δ3 e3 p3 w3 => ⟨?_, hide U L, δ3, μ', _, c2, e3, p3, fun b b' H4 μ4 s4 c4 eb p4 => ?_⟩⟩
    · rw [w3 vs hix]
      exact wipe_wipe σ vs
    · subst eb
      obtain ⟨hL2, nL2⟩ := st L _ hL' nL
      obtain ⟨hL4, nL4⟩ := s4 L _ hL2 nL2
      have r4 := (ra.step st).step s4
      have k4 : Keep H1 μ1 U H4 μ4 (hide U L) := kp.trans ((st.trans s4).kp _)
      cases b with
      | true =>
        rw [if_pos rfl] at p4 ⊢
        refine ⟨hide U L, δ3, μ4, _, c4, e3.step s4, p4, fun yv yd H5 μ5 s5 c5 r5 p5 => ⟨hide U L, δ3, μ5, _, c5, (e3.step s4).step s5, p5, fun zv zd H6 μ6 s6 c6 r6 ⟨kk, ey, p6⟩ => ?_⟩⟩
        subst ey
        obtain ⟨hL5, nL5⟩ := s5 L _ hL4 nL4
        obtain ⟨hL6, nL6⟩ := s6 L _ hL5 nL5
        have ra6 := (r4.step s5).step s6
        have kw : ∀ o, Keep H6 μ6 (hide U L) (upd H6 L o) μ6 (hide U L) := fun o => keep_hidden (.inr rfl)
        have hlen : fs.length = acc.length := keys_len ek
        refine ⟨_, T.get X.K H6 μ6 (hide U L) yv kk L fs zv (r5.step s6) hL6 (by rw [hlen]; exact lim_lt (by omega)), putG fs kk zv, putG acc kk zd, μ6, fun b o hb nb => ?_, c6.hidden (.inr rfl) (T.nt _), ((((e2.step s4).step s5).step s6).keep (kw _)), upd_same, nL6, put_keys kk zv zd ek, (put_vals r6 kk ek ra6).keep (kw _), Nat.le_trans (putG_length _ _ _) (Nat.succ_le_succ hacc), ((k4.trans (s5.kp _)).trans (s6.kp _)).trans (kw _), p6⟩
        have := (((s'.trans st).trans s4).trans s5).trans s6 b o hb nb
        rw [upd_ne (ne_of_none hb hL)]
        exact this
      | false =>
        rw [if_neg Bool.false_ne_true] at p4 ⊢
        exact ⟨fs, acc, μ4, (s'.trans st).trans s4, c4, e2.step s4, hL4, nL4, ek, r4, Nat.le_succ_of_le hacc, k4, p4⟩
  · have hi' : i = ds.length := by omega
    subst hi'
    rw [List.drop_length] at f'
    exact .inl ⟨y2 rfl, k _ _ H' μ' (s1.trans s') c'.unhide (T.rep X.K H' μ' U L fs acc hL' nL (c1.nu hL) ek (ra.keep keep_unhide)) f'.2⟩
theorem de_dc (T : KeyT κ) {kx vx tg iter : Expr} {ifs : List Expr} {scope : Scope} {own : List (Str × Nat)} {wi : WI} {g : WG} {ix : List Nat} {tt : WT} {tk tv : WE} (hu : X.A.units < cLine) (hc : X.calm = true) (hN : X.N.Nodup) (hi : DI X tg iter wi) (ok : BlkOk X.N X.env.scope scope own)
    (hg : ∀ (s : Shared) (H : Hp) (C : Addr) (cl : List (Str × Addr)) (fp : List Addr), DG (X.blk s H scope (compEnvC scope cl C X.env) fp) tg g ix) (ht : ∀ (s : Shared) (H : Hp) (C : Addr) (cl : List (Str × Addr)) (fp : List Addr), PTs (X.blk s H scope (compEnvC scope cl C X.env) fp) ifs (liftT X.K tt))
    (hk : ∀ (s : Shared) (H : Hp) (C : Addr) (cl : List (Str × Addr)) (fp : List Addr), DE (X.blk s H scope (compEnvC scope cl C X.env) fp) kx tk)
    (he : ∀ (s : Shared) (H : Hp) (C : Addr) (cl : List (Str × Addr)) (fp : List Addr), DE (X.blk s H scope (compEnvC scope cl C X.env) fp) vx tv) (hix : ∀ i ∈ ix, i ∈ own.map (·.2) := by decide) (hs : ∀ x, foldedSetIterable iter X.env x = pure x := by intro _; rfl) :
    DE X (.DictComp kx vx [⟨tg, iter, ifs, 0⟩] scope pos) (wDc T wi g tt tk tv (own.map (·.2))) :=
  weakE (pe_dcD T.emp hu hc hN hi ok (fun s H C cl fp => (hg s H C cl fp).run) ht hk he hs) (dc_ok T hix)
end
end L3
/-! L3Raise -/
/-! L3Raise: raise C(), C over ValueError with super().__init__('..') and self.f = '..' -/
namespace L3
open PySem PySem.Spec PyProof.Rows L2

def supScope : Scope := { kind := .function, names := [("self", .local), ("__class__", .free), ("super", .globalImplicit)], isGenerator := false, isCoroutine := false, more := [] }
def supParams : Arguments → Bool
  | ⟨[], [⟨x, none, _⟩], none, [], [], none, []⟩ => x == ("self" : Str)
  | _ => false
def supBody (f v : Str) : FuncBody → Bool
  | .stmts [.Expr (.Call (.Attribute (.Call (.Name x _) [] [] _) m p2) [.Constant (.str why) _ _] [] p4) _, .Assign [.Attribute (.Name s _) g _] (.Constant (.str u) _ _) _] =>
    x == ("super" : Str) && (m == ("__init__" : Str) && (s == ("self" : Str) && (g == f && (u == v && p2.endLine == p4.line))))
  | _ => false
theorem supParams_ok {a : Arguments} (h : supParams a = true) : ∃ p, a = ⟨[], [⟨"self", none, p⟩], none, [], [], none, []⟩ := by
  unfold supParams at h
  split at h
  · exact ⟨_, by rw [beq_iff_eq.mp h]⟩
  · cases h
theorem supBody_ok {f v : Str} {b : FuncBody} (h : supBody f v b = true) : ∃ (why : Str) (p0 p1 p2 p3 p4 p5 p6 p7 p8 p9 : Pos) (k1 k2 : Nat), p2.endLine = p4.line ∧
    b = .stmts [.Expr (.Call (.Attribute (.Call (.Name "super" p0) [] [] p1) "__init__" p2) [.Constant (.str why) k1 p3] [] p4) p5, .Assign [.Attribute (.Name "self" p6) f p7] (.Constant (.str v) k2 p8) p9] := by
  unfold supBody at h
  split at h
  · simp only [Bool.and_eq_true, beq_iff_eq] at h
    obtain ⟨h1, h2, h3, h4, h5, h6⟩ := h
    subst h1 h2 h3 h4 h5
    exact ⟨_, _, _, _, _, _, _, _, _, _, _, _, _, h6, rfl⟩
  · cases h
def cellB (K : PySem.W.Frag) (cc C : Addr) : Bool := match K.lookup cc with
  | some ⟨_, _, .cell (some (.ref D)), _⟩ => D == C
  | _ => false
def fileB (K : PySem.W.Frag) (cda : Addr) (file : Str) : Bool := match K.lookup cda with
  | some ⟨_, _, .fields vs, _⟩ => (match (vs[2]? : Option Value) with
    | some (.str z _) => file == z
    | _ => false)
  | _ => false
def dflNone : Value → Bool
  | .none => true
  | _ => false
def supB (file : Str) (K : PySem.W.Frag) (C : Addr) (f v : Str) : Bool := match PySem.W.findIn K (.ref C) "__init__" with
  | some (some (.ref fI)) => (match K.lookup fI with
    | some ⟨_, _, .func fd, _⟩ => (match fd.closure, fd.code with
      | [(n, cc)], .ref cda => n == ("__class__" : Str) && (cellB K cc C && (fileB K cda file && (supBody f v fd.body && (supParams fd.params && (decide (fd.scope = supScope) && (fd.globals == mainGlobals && (fd.builtins == builtinsNs && (PySem.W.codeIn K fd.code fd.qualname && (dflNone fd.defaults &&
          decide (PySem.W.typeIn K (.ref fI) = some (.type "function")))))))))))
      | _, _ => false)
    | _ => false)
  | _ => false
/-- the further facts, as one Bool -/
def supC (file : Str) (K : PySem.W.Frag) (C : Addr) (f v : Str) : Bool := supB file K C f v && (decide (PySem.W.mroIn K C (.ref C) = some true) && (decide (PySem.W.ks_superIn K C C "__init__" = some (some (.builtin "ValueError.__init__"))) &&
  (decide (PySem.W.subIn K (.ref C) (.type "ValueError") = some true) && (decide (PySem.W.nsIn K cStatics "thirdparty.any" = some none) && decide (PySem.W.findIn K (.ref C) f = some none)))))
/-- what it says -/
structure SupI (file : Str) (K : PySem.W.Frag) (C fI cc cda : Addr) (fd : FuncData) (f v : Str) : Prop where
  iC : PySem.W.findIn K (.ref C) "__init__" = some (some (.ref fI))
  tI : PySem.W.typeIn K (.ref fI) = some (.type "function")
  lk : ∃ oc od osl, K.lookup fI = some ⟨oc, od, .func fd, osl⟩
  cl : fd.closure = [(("__class__" : Str), cc)]
  co : fd.code = .ref cda
  cell : ∃ oc od osl, K.lookup cc = some ⟨oc, od, .cell (some (.ref C)), osl⟩
  file : ∃ oc od osl vs tf, K.lookup cda = some ⟨oc, od, .fields vs, osl⟩ ∧ vs[2]? = some (.str file tf)
  body : ∃ (why : Str) (p0 p1 p2 p3 p4 p5 p6 p7 p8 p9 : Pos) (k1 k2 : Nat), p2.endLine = p4.line ∧
    fd.body = .stmts [.Expr (.Call (.Attribute (.Call (.Name "super" p0) [] [] p1) "__init__" p2) [.Constant (.str why) k1 p3] [] p4) p5, .Assign [.Attribute (.Name "self" p6) f p7] (.Constant (.str v) k2 p8) p9]
  pars : ∃ p, fd.params = ⟨[], [⟨"self", none, p⟩], none, [], [], none, []⟩
  scope : fd.scope = supScope
  glob : fd.globals = mainGlobals
  blt : fd.builtins = builtinsNs
  code : PySem.W.codeIn K fd.code fd.qualname = true
  dfl : fd.defaults = .none
  mro : PySem.W.mroIn K C (.ref C) = some true
  sup : PySem.W.ks_superIn K C C "__init__" = some (some (.builtin "ValueError.__init__"))
  ve : PySem.W.subIn K (.ref C) (.type "ValueError") = some true
  thr : PySem.W.nsIn K cStatics "thirdparty.any" = some none
  no : PySem.W.findIn K (.ref C) f = some none
theorem supC_ok {file : Str} {K : PySem.W.Frag} {C : Addr} {f v : Str} (h : supC file K C f v = true) : ∃ fI cc cda fd, SupI file K C fI cc cda fd f v := by
  unfold supC at h
  simp only [Bool.and_eq_true, decide_eq_true_eq] at h
  obtain ⟨hb, h1, h2, h3, h4, h5⟩ := h
  unfold supB at hb
  split at hb
  · rename_i fI e1
    split at hb
    · rename_i oc od fd osl e2
      split at hb
      · rename_i n cc cda e3 e4
        simp only [Bool.and_eq_true, decide_eq_true_eq, beq_iff_eq] at hb
        obtain ⟨b1, b2, b3, b4, b5, b6, b7, b8, b9, b10, b11⟩ := hb
        subst b1
        refine ⟨fI, cc, cda, fd, ⟨e1, b11, ⟨_, _, _, e2⟩, e3, e4, ?_, ?_, supBody_ok b4, supParams_ok b5, b6, b7, b8, b9, ?_, h1, h2, h3, h4, h5⟩⟩
        · unfold cellB at b2
          split at b2
          · rename_i e
            exact ⟨_, _, _, by rw [e, beq_iff_eq.mp b2]⟩
          · cases b2
        · unfold fileB at b3
          split at b3
          · rename_i e
            split at b3
            · rename_i e'
              exact ⟨_, _, _, _, _, e, by rw [e', beq_iff_eq.mp b3]⟩
            · cases b3
          · cases b3
        · unfold dflNone at b10
          split at b10
          · assumption
          · cases b10
      · cases hb
    · cases hb
  · cases hb
section
open PySem.W PySem.Calls
variable {prog : Program} {w : World} {K : PySem.W.Frag}
/-- super().__init__(why) and self.f = v, from the start of the body -/
theorem sup_call {A : Around} {E : Value → Shared → Prop} {h : Heap} {g : Array GenState} {d : Drawn} {t : Nat} {os : OsState} {u e C t0 : Addr} {rest : List Value} {Q : Value → Shared → Prop} (T : OexC K C) (X : K.In h)
    (he : h.get? e = some (PySem.HandSPX.excO C t0)) (hu : h.get? u = some (kxs_mw "ValueError.__init__" e)) (hrest : rest.length ≤ sizeLine)
    (hq : ∀ h' t1, (∀ b o, b ≠ e → h.get? b = some o → h'.get? b = some o) → h'.get? e = some (PySem.HandSPX.excO C t1) → Q .none ⟨h', g, d, t, os⟩) :
    wpAny (model prog w) A (call (.ref u) rest) Q E ⟨h, g, d, t, os⟩ := by
  obtain ⟨nm, q, N, bs, bm, sn, sub, ab, col, dd, k0, k1, k2, k3, k5, hC, hbm⟩ := T.cls
  refine wpAny_call (codeAny_of_tree ?_)
  show wpAny _ A.in1 (callAny (.ref u) ⟨rest, []⟩) _ _ _
  simp only [callAny]
  refine wpAny_bind (wpAny_load hu ?_)
  simp only [kxs_mw, show (Value.type "method-wrapper" == Value.type "method" || Value.type "method-wrapper" == Value.type "builtin_function_or_method" || Value.type "method-wrapper" == Value.type "method-wrapper") = true by decide, if_true]
  refine KFB.if_so (by decide) ?_
  refine wpAny_bind (check_bound_init F.excBase_ValueError.toExcCallFacts (X _ _ hC) he rfl ?_)
  refine wpAny_bind (wpAny_pure (wpAny_pure ?_))
  refine ⟨plainId_quiet F.excBase_ValueError.init.plain _, codeAny_builtin F.excBase_ValueError.initEntry ?_⟩
  refine exc_init_tree (cls := .ref C) (t0 := t0) (dv := none) (c2 := .none) (c3 := .none) (b4 := .bool false) he hrest fun h' k e' _ => ?_
  exact hq h' _ k e'
theorem sup_he {o : Expr} {m why : Str} {p2 p3 p4 : Pos} {k1 : Nat} {env : Env} (h : p2.endLine = p4.line) : eval (.Call (.Attribute o m p2) [.Constant (.str why) k1 p3] [] p4) env = (do
      let ov ← attributeBase o m env (eval o env)
      standAt p2.atName
      let (f, first) ← holding [ov] (getMethod ov m (do return (← importBound o env).getD true))
      callWith p4 f first (backTo p4 (starEach [.Constant (.str why) k1 p3] env)) []) := by
  have hp : methodCallPos true o env p2 p4 = pure p4 := by
    unfold methodCallPos
    rw [h]
    simp
  have hm : ∀ ov, methodCall o m p2 p4 env ov 1 (backTo p4 (starEach [.Constant (.str why) k1 p3] env)) [] = (do
      let (f, first) ← holding [ov] (getMethod ov m (do return (← importBound o env).getD true))
      callWith p4 f first (backTo p4 (starEach [.Constant (.str why) k1 p3] env)) []) := fun ov => by
    unfold methodCall
    show (do
      let (f, first) ← holding [ov] (calleeOf true o env ov m)
      let cp ← methodCallPos true o env p2 p4
      callWith cp f first (backTo p4 (starEach [.Constant (.str why) k1 p3] env)) []) = _
    rw [hp]
    simp only [pure_bind]
    rfl
  show (do
    let ov ← attributeBase o m env (eval o env)
    standAt p2.atName
    methodCall o m p2 p4 env ov 1 (backTo p4 (starEach [.Constant (.str why) k1 p3] env)) []) = _
  simp only [hm]
theorem sup_body {A : Around} {mg : Str → Option Value} {hp : Heap} {g : Array GenState} {d : Drawn} {t : Nat} {os : OsState} {R : Result → Shared → Prop} {C fI cc cda x t0 : Addr} {fd : FuncData} {f v : Str} (T : OexC K C) (S : SupI prog.main.file K C fI cc cda fd f v)
    (htop : (prog.main.scope.names.lookup ("super" : Str)).isSome = false) (X : K.In hp) (lim : hp.NoLimit) (hg : hp.Ns mainGlobals mg) (hm : mg "super" = none) (hb : ∃ mb, hp.Ns builtinsNs mb ∧ ∀ x : Str, x ≠ "__name__" → mb x = bootBuiltins x)
    (hroom : A.depth < recursionLimit) (xK : ∀ b o, K.lookup b = some o → b ≠ x) (hx : hp.get? x = some (PySem.HandSPX.excO C t0))
    (hq : ∀ h' tk' dx t1 tk, (∀ b o, b ≠ x → hp.get? b = some o → h'.get? b = some o) → hp.objs.size ≤ dx → dx ≠ x → h'.get? x = some { cls := .ref C, dict := some dx, data := .fields #[.ref t1, .none, .none, .none, .bool false, .none] } →
      h'.Ns1 dx (fun y => if y = f then some (.str v tk) else none) → R (.ok (.ret .none)) ⟨h', g, d, tk', os⟩) :
    codeAny (model prog w) A (.call (.ref fI) ⟨[.ref x], []⟩) R ⟨hp, g, d, t, os⟩ := by
  obtain ⟨oc, od, osl, lk⟩ := S.lk
  obtain ⟨nm, q, N, bs, bm, sn, sub, ab, col, dd, k0, k1, k2, k3, k5, hC, hbm⟩ := T.cls
  have hcl : PySem.W.clsIn K C = some { name := nm, bases := bs, mro := .ref C :: bm, ns := N, qualname := q, hasDict := true, slotNames := sn, subclasses := sub, abstract := ab, collection := col, hasDel := false } := by unfold PySem.W.clsIn; rw [hC] <;> rfl
  have hfI := X _ _ lk
  obtain ⟨cl1, cl2, cl3, hcc0⟩ := S.cell
  obtain ⟨fl1, fl2, fl3, vs, tf, hcda0, hvs⟩ := S.file
  obtain ⟨why, p0, p1, p2, p3, p4, p5, p6, p7, p8, p9, kk1, kk2, hpos, hbody⟩ := S.body
  obtain ⟨pp, hpar⟩ := S.pars
  have e1 := S.cl
  have e2 := S.co
  have e3 := S.scope
  have e4 := S.glob
  have e5 := S.blt
  have e6 := S.dfl
  have hcode := S.code
  obtain ⟨nm', qn, params, body, scope, globals, closure, defaults, kwd, doc, pm, an, code, ct, blt⟩ := fd
  dsimp only at hbody hpar e1 e2 e3 e4 e5 e6 hcode
  subst hbody hpar e1 e2 e3 e4 e5 e6
  refine ks_codeAny_call_defAt (binds := [("self", .ref x)]) hroom hfI rfl lim (codeRec_of X hcode) rfl (BindsTo.of_eq rfl) (show ∀ z ∈ supScope.names, z.2 ≠ .cell by decide) (fun y hy => ?_) (fun h₀ hns hk => ?_) rfl rfl rfl
  · obtain rfl := List.mem_singleton.mp hy
    rfl
  · have X0 : K.In h₀ := X.keeps hk
    have hx0 := hk _ _ hx
    have hfI0 := hk _ _ hfI
    have bm' : PySem.HandSPX.refsVE (.ref C :: bm) = true := hbm
    have hsup := S.sup
    unfold ks_superIn at hsup
    rw [hcl] at hsup
    have hxC : x ≠ C := ks_ne X0 (odx := none) ⟨hx0, rfl, rfl, trivial⟩ hcl
    obtain ⟨mb, hb1, hb2⟩ := hb
    have hlt : hp.objs.size < h₀.objs.size := by
      obtain ⟨o, es, ep, ho, _⟩ := hns
      exact Heap.lt_size ho
    refine ks_wpAt_execs_cons ?_
    refine ks_wpAt_Expr_any ?_
    refine ks_wpAt_MethodCall ?_ (sup_he hpos)
    refine ks_wpAt_super_base (f := fI) (cc := cda) rfl rfl (by decide) rfl hfI0 rfl rfl rfl (X0 _ _ hcda0) rfl hvs (beq_self_eq_true _) htop ?_
    refine ks_loadName_global rfl rfl (loadGlobal_builtin (hg.keeps hk) hm (hb1.keeps hk) (v := .type "super") ((hb2 _ (by decide)).trans (by boot_by_name)) ⟨rfl, ?_⟩)
    refine wpAny_loadName_free rfl rfl rfl ⟨_, X0 _ _ hcc0, rfl⟩ ?_
    refine wpAny_loadName_local rfl rfl hns rfl ?_
    refine ks_wpAny_isType_cls (X0 _ _ hC) rfl ⟨rfl, ?_⟩
    refine ks_wpAny_call_super (X0 _ _ hC) rfl hx0 rfl (fun c e => by cases e) (looks_mroIn X0 S.mro) (fun h1 e k => ?_)
    have X1 : K.In h1 := X0.keeps k
    have hx1 := k _ _ hx0
    refine kxs_getMethod kxs_ValueError e (looks_opaque X1 S.thr) (l₀ := .ref C :: bm) (fun A Q E s k q => wpAny_bind ((looks_clsIn X1 hcl) A _ E s k (wpAny_pure q))) rfl X1 hsup
      (InstAt.type (od := none) ⟨hx1, rfl, rfl, trivial⟩ |>.andThen (looks_subIn X1 S.ve)) hxC (by decide) ?_
    have k2 : ∀ b o, h1.get? b = some o → (h1.push (kxs_mw "ValueError.__init__" x)).get? b = some o := fun b o e => Heap.get?_push_of_some _ e
    have hx2 := k2 _ _ hx1
    have hu2 : (h1.push (kxs_mw "ValueError.__init__" x)).get? h1.objs.size = some (kxs_mw "ValueError.__init__" x) := Heap.get?_push_at rfl rfl
    refine kxs_callWith (i := "ValueError.__init__") (x := x) rfl (evalArgs_plain (spliced_cons (wpAny_Constant_str (k := kk1) (pos := p3) (spliced_nil ⟨hu2, ?_⟩))))
    refine sup_call T (X1.keeps k2) hx2 hu2 (by rw [sizeLine_eq]; simp) fun h3 t3 k3 hx3 => ?_
    have kk : ∀ b o, b ≠ x → hp.get? b = some o → h3.get? b = some o := fun b o n e => k3 b o n (k2 _ _ (k _ _ (hk _ _ e)))
    have X3 : K.In h3 := fun b o e => kk b o (xK b o e) (X b o e)
    have hxL : hp.objs.size ≠ x := fun z => by
      have y := Heap.lt_size hx
      rw [z] at y
      exact absurd y (Nat.lt_irrefl _)
    have hns3 : h3.Ns hp.objs.size (fun y => [(("self" : Str), Value.ref x)].reverse.lookup y) := hns.at fun o e => k3 _ _ hxL (k2 _ _ (k _ _ e))
    refine ks_wpAt_execs_cons ?_
    refine ks_wpAt_Assign_Attr ?_
    refine wpAt_of_wpAny ?_
    refine wpAny_Constant_str ?_
    refine wpAny_Name (wpAny_loadName_local rfl rfl hns3 rfl ?_) (by decide)
    refine PySem.W.set_plain X3 (ox := { cls := .ref C, dict := none, data := .fields #[.ref t3, .none, .none, .none, .bool false, .none] }) (od := none) ⟨hx3, rfl, rfl, trivial⟩ T.sa ?_
    refine PySem.HandSPX.exc_osa X3 hx3 hcl bm' rfl S.no fun h' tk' dx k4 dn dne hx' hn => ?_
    refine wpAt_of_wpAny (wpAny_pure ?_)
    refine hq h' _ dx t3 _ (fun b o n e => k4 b o n (kk b o n e)) (Nat.le_trans (Nat.le_of_lt ?_) dn) dne hx' hn
    obtain ⟨o, es, ep, ho, _⟩ := hns3
    exact Heap.lt_size ho
end
/-- C(): the exception is made -/
def tMkS (C : Addr) (f v : Str) : L2.St → Hp → XK → Prop := fun σ H Q => ∀ d, H d = none → Q (.ref C) (some d) (upd H d (.xd [(f, .str v)]))
theorem pmk_sup {X : Cx} {x f v : Str} {C fI cc cda : Addr} {fd : FuncData} {p pos : Pos} {k : Nat} (T : OexC X.K C) (S : SupI X.prog.main.file X.K C fI cc cda fd f v) (hr : Room (k + 1) X.A)
    (htop : (X.prog.main.scope.names.lookup ("super" : Str)).isSome = false) (hsup : X.mg "super" = none) (hg : Gl X x) (hm : X.mg x = some (.ref C))
    (hdb : (x == ("__debug__" : Str)) = false := by decide) (he : eval (.Call (.Name x p) [] [] pos) X.env = (do callWith pos (← eval (.Name x p) X.env) [] (backTo pos (starEach [] X.env)) (backToKw pos (keywordEach [] X.env))) := by rfl) :
    PMk X (.Call (.Name x p) [] [] pos) (tMkS C f v) := by
  intro pins s σ H Q I h
  obtain ⟨nm, q, N, bs, bm, sn, sub, ab, col, dd, k0, k1, k2, k3, k5, hC, hbm⟩ := T.cls
  refine wpAny_Call_Name_kw (ld_glob I hg hm ?_ hdb)
  refine PySem.W.callWith_K0 I.kIn T.kC ?_
  show wpAny _ _ (call (.ref C) []) _ _ _
  obtain ⟨hp, g, dr, tk, os⟩ := s
  have hsz : hp.objs.size ≤ hp.objs.size + 1 := Nat.le_succ _
  have hn : H (hp.objs.size + 1) = none := I.hok.fresh hsz
  have kk : ∀ b o, hp.get? b = some o → ((hp.push (PySem.W.kdv_tup [])).push (PySem.HandSPX.excO C hp.objs.size)).get? b = some o := fun b o e => Heap.get?_push_of_some _ (Heap.get?_push_of_some _ e)
  have hget : ((hp.push (PySem.W.kdv_tup [])).push (PySem.HandSPX.excO C hp.objs.size)).get? (hp.objs.size + 1) = some (PySem.HandSPX.excO C hp.objs.size) := by heap_get
  have I2 : Inv X pins σ (upd H (hp.objs.size + 1) (exo (hp.objs.size + 1) C none)) ⟨(hp.push (PySem.W.kdv_tup [])).push (PySem.HandSPX.excO C hp.objs.size), g, dr, tk, os⟩ :=
    I.laid (t' := tk) (a := hp.objs.size + 1) (o := exo (hp.objs.size + 1) C none) (h' := (hp.push (PySem.W.kdv_tup [])).push (PySem.HandSPX.excO C hp.objs.size)) kk hsz (exo_ok hget)
  obtain ⟨mb, hb1, hb2⟩ := I2.mod.blt
  refine wpAny_call (PySem.HandSPX.call_own F.excBase_ValueError (fun Y => PySem.HandSPX.refsVE_contains Y bm hbm) (I.kIn _ _ hC) (PySem.W.looks_findIn I.kIn S.iC) (fun self => PySem.W.bind_fn I.kIn self S.tI) (by rw [sizeLine_eq]; simp)
    (sup_body T S htop I2.kIn (I2.mod.nolimit.keeps I2.bk) (I2.mod.glob.keeps I2.bk) hsup ⟨mb, hb1.keeps I2.bk, hb2⟩ (hr.make C [] []).depth (fun b o e => ?_) hget fun h' tk' dx t1 tk2 k dn dne hx hn2 => ?_))
  · exact Nat.ne_of_lt (Nat.lt_succ_of_lt (Heap.lt_size (I.kIn _ _ e)))
  · refine ⟨rfl, ?_⟩
    have dn' : ((hp.push (PySem.W.kdv_tup [])).push (PySem.HandSPX.excO C hp.objs.size)).objs.size ≤ dx := dn
    have hnd2 : upd H (hp.objs.size + 1) (exo (hp.objs.size + 1) C none) dx = none := I2.hok.fresh dn'
    have hnd : H dx = none := by
      rw [upd_ne dne] at hnd2
      exact hnd2
    have e : upd H (hp.objs.size + 1) (exo (hp.objs.size + 1) C none) (hp.objs.size + 1) = some (exo (hp.objs.size + 1) C none) := upd_same
    have nd : ∀ {b : Addr} {o : Obj}, ((hp.push (PySem.W.kdv_tup [])).push (PySem.HandSPX.excO C hp.objs.size)).get? b = some o → b ≠ dx := fun {b o} q => Nat.ne_of_lt (Nat.lt_of_lt_of_le (Heap.lt_size q) dn')
    have na : ∀ {b : Addr}, upd H (hp.objs.size + 1) (exo (hp.objs.size + 1) C none) b = none → b ≠ hp.objs.size + 1 := fun {b} n z => by
      rw [z, e] at n
      cases n
    have Un1 : Un (frs X.stack) [] (upd H (hp.objs.size + 1) (exo (hp.objs.size + 1) C none)) (upd (upd (upd H (hp.objs.size + 1) (exo (hp.objs.size + 1) C none)) dx (exd dx [(f, .str v)])) (hp.objs.size + 1) (exo (hp.objs.size + 1) C (some dx))) ((hp.push (PySem.W.kdv_tup [])).push (PySem.HandSPX.excO C hp.objs.size)) h' := {
      keep := fun b o q n _ _ => k b o (na n) q
      slot := fun b o q n _ _ => ⟨o.slots, k b o (na n) q⟩
      free := fun b o q n _ => by rw [upd_ne (na n), upd_ne (nd q)]; exact n
      there := fun b o q _ => by
        by_cases hb : b = hp.objs.size + 1
        · exact ⟨_, by rw [hb]; exact hx⟩
        · exact ⟨o, k b o hb q⟩
      tups := fun b xs q => by rw [upd_ne (at_ne e q exo_tup), upd_ne (ne_of_none q hnd2)]; exact q
      frzs := fun b o v q => by rw [upd_ne (at_ne e q exo_frz), upd_ne (ne_of_none q hnd2)]; exact q
      tbls := fun b ps q => ⟨#[], by rw [upd_ne (at_ne e q exo_tbl), upd_ne (ne_of_none q hnd2), q]; simp⟩ }
    have hok : HOk X.prog X.w (upd (upd (upd H (hp.objs.size + 1) (exo (hp.objs.size + 1) C none)) dx (exd dx [(f, .str v)])) (hp.objs.size + 1) (exo (hp.objs.size + 1) C (some dx))) h' := fun b o q => by
      by_cases hb : b = hp.objs.size + 1
      · subst hb
        rw [upd_same] at q
        cases q
        exact exo_ok hx
      · rw [upd_ne hb] at q
        by_cases hd : b = dx
        · subst hd
          rw [upd_same] at q
          cases q
          exact exd_ok hn2 (relO_put (fs := []) (show RelV (.str v) (.str v tk2) from ⟨tk2, rfl⟩) fun g => True.intro)
        · rw [upd_ne hd] at q
          exact (I2.hok b o q).stay (fun c v hc z => k c v (by
              rcases hc with hc | hc
              · rw [hc]
                exact hb
              · exact at_ne e hc exo_own) z)
            (fun c hc => by rw [upd_ne (at_ne e hc exo_own), upd_ne (ne_of_none hc hnd2)]; exact hc) (fun c xs hc => by rw [upd_ne (at_ne e hc exo_tup), upd_ne (ne_of_none hc hnd2)]; exact hc)
    refine mk_end (C := C) (d := dx) (fs := [(f, .str v)]) (raises_own T.exC T.tyC) I hsz kk Un1 hok rfl I.bare upd_same (by rw [upd_ne dne, upd_same]) hnd ?_
    have ee : upd (del (upd (upd (upd H (hp.objs.size + 1) (exo (hp.objs.size + 1) C none)) dx (exd dx [(f, .str v)])) (hp.objs.size + 1) (exo (hp.objs.size + 1) C (some dx))) (hp.objs.size + 1)) dx (.xd [(f, .str v)]) = upd H dx (.xd [(f, .str v)]) := by
      funext b
      by_cases hb : b = dx
      · rw [hb, upd_same, upd_same]
      · rw [upd_ne hb, upd_ne hb]
        by_cases ha : b = hp.objs.size + 1
        · rw [ha, del_same, hn]
        · rw [del_ne ha, upd_ne ha, upd_ne hb, upd_ne ha]
    rw [ee]
    exact h dx hnd
end L3
namespace L3
open PySem PySem.Spec PyProof.Rows L2
def oexCls : Option Obj → Addr → Bool
  | some ⟨.type ty, _, .cls ⟨_, _, .ref D :: bm, _, _, true, _, _, _, _, false⟩, ks⟩, C => ty == "type" && (D == C && (PySem.HandSPX.refsVE bm && (match ks.toList with
    | [_, _, _, _, some (.builtin n), _] => n == "ValueError.__new__"
    | _ => false)))
  | _, _ => false
theorem oexCls_ok {K : PySem.W.Frag} {C : Addr} (h : oexCls (K.lookup C) C = true) : ∃ nm q N bs bm sn sub ab col dd k0 k1 k2 k3 k5, K.lookup C = some (excClassObj nm q C N bs bm true sn sub ab col dd k0 k1 k2 k3 k5 "ValueError.__new__") ∧ PySem.HandSPX.refsVE bm = true := by
  unfold oexCls at h
  split at h
  · rename_i C _ _ oty dd nm bs D bm N q sn sub ab col ks hlk
    simp only [Bool.and_eq_true, beq_iff_eq] at h
    obtain ⟨rfl, rfl, h3, h4⟩ := h
    split at h4
    · rename_i k0 k1 k2 k3 n k5 hk
      have hn := beq_iff_eq.mp h4
      subst hn
      have ek : ks = #[k0, k1, k2, k3, some (.builtin "ValueError.__new__"), k5] := by
        rw [← Array.toList_inj]; exact hk
      refine ⟨nm, q, N, bs, bm, sn, sub, ab, col, dd, k0, k1, k2, k3, k5, ?_, h3⟩
      rw [hlk, ek]
    · cases h4
  · cases h
def oexB (K : PySem.W.Frag) (C : Addr) : Bool := oexCls (K.lookup C) C && (decide (PySem.W.findIn K (.ref C) "__setattr__" = some (some (.builtin "object.__setattr__"))) && (decide (PySem.W.subIn K (.ref C) (.type "BaseException") = some true) &&
  (decide (PySem.W.typeIn K (.ref C) = some (.type "type")) && PySem.W.keepIn K (.ref C))))
theorem oexB_ok {K : PySem.W.Frag} {C : Addr} (h : oexB K C = true) : OexC K C := by
  unfold oexB at h
  simp only [Bool.and_eq_true, decide_eq_true_eq] at h
  exact ⟨oexCls_ok h.1, h.2.1, h.2.2.1, h.2.2.2.1, h.2.2.2.2⟩
/-- what of data a raising def asks -/
abbrev SpR := List D → Prop
def liftR (K : PySem.W.Frag) (C : Addr) (f v : Str) (sp : SpR) : Sp := fun vs H _ E => ∃ U ds μ, ConcM K H μ U ∧ RepL K H μ U vs ds ∧ sp ds ∧ ∀ H' dd, Step H μ H' μ → ConcM K H' μ U → H' dd = some (.xd [(f, .str v)]) → E (.ref C) (some dd) H'
section
variable {Pg : Program} {w : World} {K : PySem.W.Frag} {mg : Str → Option Value} {base : Heap} {fa : List He.Fa} {fn : List He.DefD} {ex : PySem.W.Frag → Bool}
/-- THE RULE for a def that starts with `if c: raise C()`, where it raises -/
theorem def_raise (T : Tp fa fn ex K mg) (i : Nat) {d : He.DefD} {N ps : List Str} {k : Nat} {sp : SpR} {C fI cc cda : Addr} {fd0 : FuncData} {x f v : Str} {c : Expr} {p p1 p2 p3 : Pos} {rest : List Stmt} (hd : fn[i]? = some d) (h0 : d.dfl = []) (S : FnScope N ps d.scope)
    (hb : ∀ (kV doc pm : Value) (an : Option Addr) (cdv ct : Value) (us : List Value), us.length = ps.length → bindArgs (PySem.W.fnOf d.name d.qual d.params d.body d.scope .none kV doc pm an cdv ct) ⟨us, []⟩ = pure (ps.zip us))
    (len : ∀ ds, sp ds → ds.length = ps.length) {wc : WT}
    (hcond : ∀ (cdv : Value) (A : Around) (outer : List PySem.Env) (s : Shared) (H : Hp) (E : XK), Room (k + 1) (A.deeper (envOfC d.qual d.scope s.heap.objs.size (He.fAd K d.at_) cdv)) →
      DT (cxOf (CX Pg w) Pg w K mg base N d.qual d.scope (He.fAd K d.at_) cdv A outer s H E) c wc)
    (hbody : d.body = .If c [.Raise (some (.Call (.Name x p) [] [] p1)) none p2] [] p3 :: rest)
    (TC : OexC K C) (SI : SupI Pg.main.file K C fI cc cda fd0 f v) (htop : (Pg.main.scope.names.lookup ("super" : Str)).isSome = false) (hsup : mg "super" = none) (hg : d.scope.names.lookup x = some .globalImplicit) (hm : mg x = some (.ref C)) (hdb : (x == ("__debug__" : Str)) = false)
    (hw : ∀ ds μ, sp ds → wc (startD N.length ds) μ (fun b μ' => b = true ∧ μ' = μ)) :
    ∃ fd, FnOk Pg w K mg base (CX Pg w) (k + 2) (He.fAd K d.at_) fd ps (liftR K C f v sp) ∧ Binds K fd ps [] := by
  obtain ⟨fd, F⟩ := T.says.def_ i hd
  have e0 : d.dvs K = [] := by unfold He.DefD.dvs; rw [h0]; rfl
  rw [e0] at F
  refine ⟨fd, ?_, FunD.bindsN F hb⟩
  refine F.ok S (fun vs H Q E h => ?_) (fun cdv A outer s H vs Q E hr h => ?_)
  · obtain ⟨U, ds, μ, c, r, q, _⟩ := h
    rw [r.length]
    exact len ds q
  · have tk : Takes (cxOf (CX Pg w) Pg w K mg base N d.qual d.scope (He.fAd K d.at_) cdv A outer s H E) (fun cls d _ H => E cls d H) := takes_of rfl rfl rfl rfl
    have pm : PMk (cxOf (CX Pg w) Pg w K mg base N d.qual d.scope (He.fAd K d.at_) cdv A outer s H E) (.Call (.Name x p) [] [] p1) (tMkS C f v) := pmk_sup TC SI hr htop hsup hg hm hdb
    rw [hbody]
    refine ⟨_, pss_cons (ps_if (hcond cdv A outer s H E hr) (pss_one (ps_raise rfl tk pm)) pss_nil) pss_never, ?_⟩
    obtain ⟨U, ds, μ, c, r, q, kk⟩ := h
    refine ⟨U, _, μ, _, c, start_ok N r, hw ds μ q, fun b b' H1 μ1 s1 c1 e1 p1 => ?_⟩
    obtain ⟨rfl, rfl⟩ := p1
    subst e1
    rw [if_pos rfl]
    intro dd hdd
    exact kk _ dd (s1.trans (Step.new hdd)) (c1.new hdd) upd_same
end
end L3
/-! L3Lam -/
namespace L3
open PySem PySem.Spec PyProof.Rows L2 LamX
/-- asked: try: a() / except e as n: return n.code -/
def TRef (C : Addr) (code v : Str) : (XK → Hp → VK → Prop) → Hp → VK → Prop := fun tl H Q =>
  tl (fun cls d H' => cls = .ref C ∧ (∃ dd, d = some dd ∧ H' dd = some (.xd [(code, .str v)])) ∧ Q (.str v) H') H (fun _ H' => Q .non H')
theorem takes_len {X : Cx} {W : WX} (t : Takes X W) : Takes X (fun cls d σ H => σ.length = X.N.length → W cls d σ H) := fun u s' ⟨a, B, sI, pins, σ, H, cls, d, e, I, nb, up, sky, na, os, ag, w⟩ =>
  t u s' ⟨a, B, sI, pins, σ, H, cls, d, e, I, nb, up, sky, na, os, ag, w I.len⟩
theorem ref_gives {X : Cx} {Ng : List Str} {x a e n q code v : Str} {sg : Scope} {g C : Addr} {cdg : Value} {j : Nat} {p1 p2 p3 p4 p5 p6 p7 p8 p9 p10 p11 : Pos} (hge : sg.names.lookup e = some .globalImplicit) (hme : X.mg e = some (.ref C)) (hde : (e == ("__debug__" : Str)) = false)
    (hN : Ng.Nodup) (hi : Ng[1]? = some n) (hln : sg.names.lookup n = some .local) (h0 : ∀ f : Addr, (L2.start Ng [V.ref f])[0]? = some (some (V.ref f))) (hdn : (n == ("__debug__" : Str)) = false) (hcn : (n == ("__classdict__" : Str)) = false)
    (XC : XfC X.K C) (hno : PySem.W.findIn X.K (.ref C) code = some none) (hex : PySem.W.exmOne X.K (.ref C) (.ref C) = some true) :
    GivesTo X Ng x sg g cdg [.Try [.Expr (.Call (.Name a p1) [] [] p2) p3] [.ExceptHandler (some (.Name e p4)) (some n) [.Return (some (.Attribute (.Name n p5) code p6)) p7] p8] [] [] p9, .Return (some (.Constant .none j p10)) p11] a q (TRef C code v) := by
  intro f c' s H Q tl act hc h
  have hgl : Gl (cxOf C8.CX0 X.prog X.w X.K X.mg X.base Ng x sg g cdg X.A X.stack s H C8.E0).nox e := hge
  have hv : Vis sg n := .inl hln
  refine ⟨_, pss_cons (ps_try_as (X := (cxOf C8.CX0 X.prog X.w X.K X.mg X.base Ng x sg g cdg X.A X.stack s H C8.E0).nox) (c := .ref C) (i := 1)
      (tb := fun W D σ H => ∃ Ech : XK, (∀ cls d σ' H', σ'.length = Ng.length → Ech cls d H' → W cls d σ' H') ∧ σ[0]? = some (some (.ref f)) ∧ H c' = some (CodeO c' q) ∧ tl Ech H (fun _ H' => D.nx σ H'))
      rfl rfl hN hi hln ⟨hgl, hde, .inl hme⟩ takes0 (fun W pn xe tk _ => ?_) (fun a oe cls d pn hz hf => pss_one (ps_ret (pe_xf (C := C) XC hno hz hf (pe_var (i := 1) hi hv hdn hcn))))) (pss_one (ps_ret pe_non)), ?_⟩
  · refine ⟨fun pins s' σ H' D I h' => ?_⟩
    obtain ⟨Ech, hW, h1, h2, h3⟩ := h'
    have hp := act (fun cls d σ' H' => σ'.length = Ng.length → W cls d σ' H') pn xe Ech p1 p2 (takes_len tk) (fun cls d σ' H' hE hl => hW cls d σ' H' hl hE)
    have hq := pss_one (ps_expr (pos := p3) hp)
    exact hq.run pins s' σ H' D I ⟨h1, h2, h3⟩
  · refine ⟨fun cls d H' => cls = .ref C ∧ (∃ dd, d = some dd ∧ H' dd = some (.xd [(code, .str v)])) ∧ Q (.str v) H', fun cls d σ' H' hl ⟨ec, ⟨dd, ed, hd⟩, q⟩ => ?_, h0 f, hc, h⟩
    subst ec
    refine ⟨true, hex, fun _ a ha => ?_, fun z => by cases z⟩
    refine ⟨.ref a, List.getElem?_set_self (by rw [hl]; exact (List.getElem?_eq_some_iff.mp hi).1), rfl, rfl, dd, _, .str v, ed, hd, ?_, q⟩
    simp [List.lookup]

/-! ### data readings ahead of a plain one -/
def liftX (K : PySem.W.Frag) (w : WS) (u : TS) : TS := fun E σ H => ∃ U δ μ F, ConcM K H μ U ∧ ConcE K H μ U σ δ ∧ w F δ μ ∧ (∀ σ' δ' H' μ', Step H μ H' μ' → ConcM K H' μ' U → ConcE K H' μ' U σ' δ' → F.nx δ' μ' → u E σ' H') ∧
  Pst K H μ U (fun H' μ' v d => RepV K H' μ' U v d) F.rt E.rt ∧ (∀ δ μ, ¬ F.bk δ μ) ∧ (∀ δ μ, ¬ F.ct δ μ)
theorem mix_nil {X : Cx} {rest : List Stmt} {u : TS} (h : PSs X rest u) : PSs X rest (liftX X.K wNext u) := weakSs h fun E σ H ⟨U, δ, μ, F, c, e, w, k, _⟩ => k σ δ H μ (Step.refl _ _) c e w
theorem mix_cons {X : Cx} {st : Stmt} {rest : List Stmt} {t w : WS} {u : TS} (h1 : DS X st t) (h2 : PSs X rest (liftX X.K w u)) : PSs X (st :: rest) (liftX X.K (wSeq t w) u) :=
  weakSs (pss_cons h1 h2) fun E σ H ⟨U, δ, μ, F, c, e, wt, k, kr, kb, kc⟩ => ⟨U, δ, μ, { F with nx := w F }, c, e, wt, ⟨fun σ' δ' H' μ' s c' e' q => ⟨U, δ', μ', F, c', e', q, fun σ2 δ2 H2 μ2 s2 => k σ2 δ2 H2 μ2 (s.trans s2), kr.on s, kb, kc⟩, kr, fun _ _ _ _ _ _ _ z => (kb _ _ z).elim, fun _ _ _ _ _ _ _ z => (kc _ _ z).elim⟩⟩
/-! ### tables -/
section
variable {K : PySem.W.Frag} {H H' : Hp} {μ μ' : Mu} {U : Hid} {T : List (Addr × Str)}
theorem ConcM.ext0 (c : ConcM K H μ U) {a : Addr} {o : HO} (e : H a = some o) (h1 : ∀ vs, o ≠ .lst vs) (h2 : ∀ C dx fs, o ≠ .ins C dx fs) (h3 : ∀ fs, o ≠ .dK fs) (h4 : ∀ fs, o ≠ .dT fs) : μ a = none := by
  cases q : μ a with
  | none => rfl
  | some u =>
    obtain ⟨_, r⟩ := c.ob a u q
    cases u with
    | lst ds => obtain ⟨vs, z, _⟩ := r; rw [e] at z; exact (h1 _ (Option.some.inj z)).elim
    | ins C gs => obtain ⟨dx, fs, z, _⟩ := r; rw [e] at z; exact (h2 _ _ _ (Option.some.inj z)).elim
    | dK gs => obtain ⟨fs, z, _⟩ := r; rw [e] at z; exact (h3 _ (Option.some.inj z)).elim
    | dT gs => obtain ⟨fs, z, _⟩ := r; rw [e] at z; exact (h4 _ (Option.some.inj z)).elim
theorem tabs_step (c : ConcM K H μ U) (s : Step H μ H' μ') (t : Tabs T H) : Tabs T H' := fun p hp => by
  obtain ⟨ps, h1, h2, h3⟩ := t p hp
  refine ⟨ps, (s _ _ h1 (c.ext0 h1 (fun _ z => by cases z) (fun _ _ _ z => by cases z) (fun _ z => by cases z) (fun _ z => by cases z))).1, h2, fun pos cv e => ?_⟩
  obtain ⟨c', e1, e2⟩ := h3 pos cv e
  refine ⟨c', e1, (s _ _ e2 (c.ext0 e2 (fun _ z => ?_) (fun _ _ _ z => ?_) (fun _ z => ?_) (fun _ z => ?_))).1⟩ <;> (unfold CodeO at z; cases z)
theorem ExtN.rd (e : ExtN H H') {a : Addr} {u : HO} (h : Rd H a u) (n : ∀ ps, u ≠ .tbl ps) : Rd H' a u := by
  rcases h with h | ⟨o, h⟩
  · exact .inl (e _ _ h n)
  · exact .inr ⟨o, e _ _ h fun _ z => by cases z⟩
mutual
theorem RepV.extN (e : ExtN H H') : ∀ {v : V} {d : D}, RepV K H μ U v d → RepV K H' μ U v d
  | _, _, .non => .non
  | _, _, .bl b => .bl b
  | _, _, .int i => .int i
  | _, _, .str x => .str x
  | _, _, .ty n => .ty n
  | _, _, .own a => .own a
  | _, _, .lst h n u r => .lst (e _ _ h fun _ z => by cases z) n u (RepL.extN e r)
  | _, _, .fz h r => .fz (h.imp (fun h => ⟨ExtN.rd e h.1 (fun _ z => by cases z), h.2⟩) id) (RepL.extN e r)
  | _, _, .tup h n u r => .tup (e _ _ h fun _ z => by cases z) n u (RepL.extN e r)
  | _, _, .ins h n u k r => .ins (e _ _ h fun _ z => by cases z) n u k (RepL.extN e r)
  | _, _, .dK h n u k r => .dK (e _ _ h fun _ z => by cases z) n u k (RepL.extN e r)
  | _, _, .dT h n u k r => .dT (e _ _ h fun _ z => by cases z) n u k (RepL.extN e r)
theorem RepL.extN (e : ExtN H H') : ∀ {vs : List V} {ds : List D}, RepL K H μ U vs ds → RepL K H' μ U vs ds
  | _, _, .nil => .nil
  | _, _, .cons r t => .cons (RepV.extN e r) (RepL.extN e t)
end
/-- nothing is hidden -/
def NoU : Hid := fun _ => False
theorem ConcM.extN (c : ConcM K H μ NoU) (e : ExtN H H') : ConcM K H' μ NoU := ⟨fun a o q => ⟨fun z => z, by
  obtain ⟨_, r⟩ := c.ob a o q
  cases o with
  | lst ds => obtain ⟨vs, z, r⟩ := r; exact ⟨vs, e _ _ z (fun _ z => by cases z), r.extN e⟩
  | ins C gs => obtain ⟨dx, fs, z, k, r⟩ := r; exact ⟨dx, fs, e _ _ z (fun _ z => by cases z), k, r.extN e⟩
  | dK gs => obtain ⟨fs, z, k, r⟩ := r; exact ⟨fs, e _ _ z (fun _ z => by cases z), k, r.extN e⟩
  | dT gs => obtain ⟨fs, z, k, r⟩ := r; exact ⟨fs, e _ _ z (fun _ z => by cases z), k, r.extN e⟩⟩, fun _ z => z.elim⟩
theorem ConcE.extN {σ : L2.St} {δ : De} (c : ConcE K H μ U σ δ) (e : ExtN H H') : ConcE K H' μ U σ δ := ⟨c.len, fun i d h => let ⟨v, h1, h2⟩ := c.at_ i d h; ⟨v, h1, h2.extN e⟩⟩
end
/-- if not same(refused(lambda: f(x, y)), v): return False; x, y at slots i, j -/
def tLawIf (K : PySem.W.Frag) (T : List (Addr × Str)) (i j : Nat) (sp : SpR) : TS := fun D σ H => ∃ δ μ d1 d2, Tabs T H ∧ ConcM K H μ NoU ∧ ConcE K H μ NoU σ δ ∧ δ[i]? = some (some d1) ∧ δ[j]? = some (some d2) ∧ sp [d1, d2] ∧
  ∀ H', Tabs T H' → ConcM K H' μ NoU → ConcE K H' μ NoU σ δ → D.nx σ H'

section
variable {X : Cx}
theorem ps_lawif {ss : SpD} {rr : SpR} {T : List (Addr × Str)} {i1 i2 k ks : Nat} {gs gr gp C c P : Addr} {fdp : FuncData} {ps pp : List Str} {code v same refd parts a e n x1 x2 : Str} {Ng : List Str} {pg : Arguments} {bg : List Stmt} {sg scope : Scope} {params : Arguments} {j j2 : Nat}
    {b1 b2 b3 b4 b5 b6 b7 b8 b9 b10 b11 : Pos} {bj : Nat} {q1 q2 q3 q4 q5 q6 q7 q8 q9 q10 q11 q12 q13 q14 : Pos}
    (Fs : GDef X.prog X.w X.K X.mg X.base ks gs ps ss) (hs : ∀ μ P, P (.bl true) μ → ss [.str v, .str v] μ P) (hms : X.mg same = some (.ref gs)) (hgs : Gl X same) (hrs : Room ks X.A)
    (Fr : ∃ fd, FunD X.K refd refd pg bg sg [] [] gr fd) (hbr : ∀ (kV doc pm : Value) (an : Option Addr) (cdv ct : Value) (us : List Value), us.length = 1 → bindArgs (PySem.W.fnOf refd refd pg bg sg .none kV doc pm an cdv ct) ⟨us, []⟩ = pure ([a].zip us))
    (hmr : X.mg refd = some (.ref gr)) (hgr : Gl X refd) (Sg : FnScope Ng [a] sg) (hNg : Ng[0]? = some a) (hva : Vis sg a)
    (hbg : bg = [.Try [.Expr (.Call (.Name a b1) [] [] b2) b3] [.ExceptHandler (some (.Name e b4)) (some n) [.Return (some (.Attribute (.Name n b5) code b6)) b7] b8] [] [] b9, .Return (some (.Constant .none bj b10)) b11])
    (hge : sg.names.lookup e = some .globalImplicit) (hme : X.mg e = some (.ref C)) (hde : (e == ("__debug__" : Str)) = false) (hi : Ng[1]? = some n) (hln : sg.names.lookup n = some .local) (hdn : (n == ("__debug__" : Str)) = false) (hcn : (n == ("__classdict__" : Str)) = false)
    (XC : XfC X.K C) (hno : PySem.W.findIn X.K (.ref C) code = some none) (hex : PySem.W.exmOne X.K (.ref C) (.ref C) = some true)
    (Fp : FnOk X.prog X.w X.K X.mg X.base (CX X.prog X.w) k gp fdp pp (liftR X.K C code v rr)) (hbp : Binds X.K fdp pp []) (hkp : PySem.W.keepIn X.K (.ref gp) = true) (hmp : X.mg parts = some (.ref gp)) (hgp : scope.names.lookup parts = some .globalImplicit)
    (TB : TabB X.base X.mg c P) (hcode : X.env.code = .ref c) (hT : T = [(P, X.env.qual ++ "<lambda>")]) (hr : Room (k + 2) X.A) (L : LamS X.env.scope scope) (hdef : defaultsOf params X.env = ([], []))
    (hbind : ∀ (q : Str) (cl : List (Str × Addr)) (pm cv ctv : Value), bindArgs (PySem.W.kla_fn "<lambda>" q params (.Call (.Name parts q1) [.Name x1 q2, .Name x2 q3] [] q4) scope cl pm cv ctv) ⟨[], []⟩ = pure [])
    (hx1 : X.N[i1]? = some x1) (hx2 : X.N[i2]? = some x2) (hv1 : Vis scope x1) (hv2 : Vis scope x2)
    (hd0 : (same == ("__debug__" : Str)) = false := by decide) (hd1 : (refd == ("__debug__" : Str)) = false := by decide) (hd2 : (a == ("__debug__" : Str)) = false := by decide) (hd3 : (a == ("__classdict__" : Str)) = false := by decide) (hd4 : (parts == ("__debug__" : Str)) = false := by decide)
    (hd5 : (x1 == ("__debug__" : Str)) = false := by decide) (hd6 : (x1 == ("__classdict__" : Str)) = false := by decide) (hd7 : (x2 == ("__debug__" : Str)) = false := by decide) (hd8 : (x2 == ("__classdict__" : Str)) = false := by decide) :
    PS X (.If (.UnaryOp .Not (.Call (.Name same q5) [.Call (.Name refd q6) [.Lambda params (.Call (.Name parts q1) [.Name x1 q2, .Name x2 q3] [] q4) scope q7] [] q8, .Constant (.str v) j q9] [] q10) q11) [.Return (some (.Constant (.bool false) j2 q12)) q13] [] q14) (tLawIf X.K T i1 i2 rr) := by
  obtain ⟨fdr, Fr⟩ := Fr
  have hbr2 : Binds X.K fdr [a] [] := FunD.bindsN Fr hbr
  have hkr := Fr.kp
  obtain ⟨oc, od, dV, kV, doc, pm, an, cdv, ct, osl, e1, lk, hcd, _, _⟩ := Fr.ex
  subst e1
  subst hbg
  obtain ⟨fds, Fs1, Fs2⟩ := Fs.ex
  have hG : GivesTo X Ng refd sg gr cdv _ a (X.env.qual ++ "<lambda>") (TRef C code v) := ref_gives (p1 := b1) (p2 := b2) (p3 := b3) (p4 := b4) (p5 := b5) (p6 := b6) (p7 := b7) (p8 := b8) (p9 := b9) (j := bj) (p10 := b10) (p11 := b11) hge hme hde Sg.nd hi hln (fun f => by
    unfold L2.start
    rfl) hdn hcn XC hno hex
  have hlam := pe_lamcall (X := X) (t := fun E => tCall (liftR X.K C code v rr) [] E (tCons (tVar i1) (tCons (tVar i2) tNil))) (p := q6) (lpos := q7) (pos := q8) (params := params) (body := .Call (.Name parts q1) [.Name x1 q2, .Name x2 q3] [] q4) (scope := scope) hgr hmr hkr lk hcd hbr2 Sg hNg hva hG TB hcode (T := T) (by rw [hT]; exact List.mem_singleton_self _) (fun p hp _ => by rw [hT] at hp; rw [List.mem_singleton.mp hp]) hr L hdef hbind
    (fun A outer s H E f c' hr' => pe_call (X := lamCx X A outer s H E scope f c') Fp hr' hgp hmp hkp hbp .nil (passes_call (takes_of rfl rfl rfl rfl) fun _ _ _ _ h => h)
      (pa_cons (pe_var (i := i1) hx1 hv1 hd5 hd6) (pa_cons (pe_var (i := i2) hx2 hv2 hd7 hd8) pa_nil)) hd4) hd1 hd2 hd3
  have hcall := pe_call (X := X) (p := q5) (pos := q10) Fs1 hrs hgs hms Fs.kp Fs2 .nil (pass0 (X := X)) (pa_cons hlam (pa_cons (pe_str (x := v) (j := j) (pos := q9)) pa_nil)) hd0
  refine weakS (ps_if (pt_not (pt_truth hcall (fun _ => rfl))) (pss_one (ps_ret pe_bl)) pss_nil) fun D σ H h => ?_
  obtain ⟨δ, μ, d1, d2, hT1, cm, ce, e1, e2, hsp, hq⟩ := h
  obtain ⟨v1, s1, r1⟩ := ce.at_ i1 d1 e1
  obtain ⟨v2, s2, r2⟩ := ce.at_ i2 d2 e2
  refine ⟨hT1, fun H1 ex T1 => ?_⟩
  have c1 := cm.extN ex
  refine ⟨v1, s1, v2, s2, NoU, [d1, d2], μ, c1, .cons (r1.extN ex) (.cons (r2.extN ex) .nil), hsp, fun H' dd st c' hdd => ?_⟩
  refine ⟨rfl, ⟨dd, rfl, hdd⟩, ?_⟩
  refine ⟨NoU, [.str v, .str v], μ, (fun d μ' => d = .bl true ∧ μ' = μ), c', .cons (.str v) (.cons (.str v) .nil), hs _ _ ⟨rfl, rfl⟩, fun x d H2 μ2 st2 c2 rep ⟨ed, eμ⟩ => ?_⟩
  subst ed eμ
  cases rep
  refine ⟨true, rfl, ?_⟩
  exact hq H2 (tabs_step c' st2 (tabs_step c1 st T1)) c2 (((ce.extN ex).step st).step st2)
end

/-! ### one keyword -/
def kg1 {α : Type} : List α → List α → List α
  | [a], [b] => [a, b]
  | _, _ => []
structure KDef (Pg : Program) (w : World) (K : PySem.W.Frag) (mg : Str → Option Value) (base : Heap) (k : Nat) (fa : Addr) (ps ks : List Str) (sp : SpD) : Prop where
  ex : ∃ fd, FnD Pg w K mg base k fa fd ps sp ∧ KBinds K fd ps ks kg1 kg1
  kp : PySem.W.keepIn K (.ref fa) = true
theorem de_callK1 {X : Cx} {k : Nat} {fa : Addr} {ps ks : List Str} {sp : SpD} {x : Str} {nm : Option Str} {e e2 : Expr} {wa wb : WE} {p kpos pos : Pos} (F : KDef X.prog X.w X.K X.mg X.base k fa ps ks sp) (hr : Room k X.A) (hm : X.mg x = some (.ref fa)) (ha : DE X e wa) (hb : DE X e2 wb) (hg : Gl X x := by rfl)
    (hks : (backToKw pos (keywordEach [⟨nm, e2, kpos⟩] X.env)).filterMap (·.1) = ks := by rfl) (hall : (backToKw pos (keywordEach [⟨nm, e2, kpos⟩] X.env)).all (·.1.isSome) = true := by rfl) (hdb : (x == ("__debug__" : Str)) = false := by decide)
    (he : starEach [e] X.env = (false, eval e X.env) :: starEach [] X.env := by rfl) (hpl : ((backTo pos (starEach [e] X.env)).any (·.1) || (backToKw pos (keywordEach [⟨nm, e2, kpos⟩] X.env)).any (·.1.isNone)) = false := by rfl) :
    DE X (.Call (.Name x p) [e] [⟨nm, e2, kpos⟩] pos) (wCall sp (wCons wa (wCons wb wNil))) := by
  obtain ⟨fd, h1, h2⟩ := F.ex
  exact weakE (pe_callK h1 hr hg hm F.kp h2 pass0 (pa_cons ha pa_nil he) (pk_cons hb pk_nil) hall hks hdb he hpl) fun σ H Q ⟨U, δ, μ, P, c, ce, w, k⟩ =>
    ⟨U, δ, μ, _, c, ce, w, fun v d H1 μ1 s1 c1 r1 p1 => ⟨U, δ, μ1, _, c1, ce.step s1, p1, fun v2 d2 H2 μ2 s2 c2 r2 p2 => ⟨U, [d, d2], μ2, P, c2, .cons (r1.step s2) (.cons r2 .nil), p2, k.on (s1.trans s2)⟩⟩⟩
section
variable {Pg : Program} {w : World} {K : PySem.W.Frag} {mg : Str → Option Value} {base : Heap} {fa : List He.Fa} {fn : List He.DefD} {ex : PySem.W.Frag → Bool}
theorem def_okK (T : Tp fa fn ex K mg) (i : Nat) {d : He.DefD} {N : List Str} {p1 p2 : Str} {k : Nat} {sp : SpD} (hd : fn[i]? = some d) (h0 : d.dfl = []) (S : FnScope N [p1, p2] d.scope)
    (hb : ∀ (kV doc pm : Value) (an : Option Addr) (cdv ct : Value) (a b : Value), bindArgs (PySem.W.fnOf d.name d.qual d.params d.body d.scope .none kV doc pm an cdv ct) ⟨[a], [(p2, b)]⟩ = pure ([p1, p2].zip [a, b]))
    (len : ∀ ds μ P, sp ds μ P → ds.length = 2) {wb : WS}
    (hbody : ∀ (cdv : Value) (A : Around) (outer : List PySem.Env) (s : Shared) (H : Hp) (E : XK), Room k (A.deeper (envOfC d.qual d.scope s.heap.objs.size (He.fAd K d.at_) cdv)) →
      DSs (cxOf CX0 Pg w K mg base N d.qual d.scope (He.fAd K d.at_) cdv A outer s H E).nox d.body wb)
    (hw : ∀ ds μ P, sp ds μ P → wb { nx := fun _ μ' => fgt P .non μ', rt := fgt P } (startD N.length ds) μ) : KDef Pg w K mg base (k + 1) (He.fAd K d.at_) [p1, p2] [p2] sp := by
  obtain ⟨fd, F⟩ := T.says.def_ i hd
  have e0 : d.dvs K = [] := by unfold He.DefD.dvs; rw [h0]; rfl
  rw [e0] at F
  refine ⟨⟨fd, ?_, ⟨fun s us ws _ hl => ?_, fun {vs us zs ws} r1 r2 => ?_⟩⟩, F.kp⟩
  · refine F.ok S (fun vs H Q E h => ?_) (fun cdv A outer s H vs Q E hr h => ⟨_, PSs.nox (hbody cdv A outer s H E hr), ?_⟩)
    · obtain ⟨U, ds, μ, P, c, r, q, _⟩ := h
      rw [r.length]
      exact len ds μ P q
    · obtain ⟨U, ds, μ, P, c, r, q, kk⟩ := h
      refine ⟨U, _, μ, _, c, start_ok N r, hw ds μ P q, ⟨fun σ' δ' H' μ' s' c' e' ⟨μ2, f, p'⟩ => kk _ _ H' μ2 (s'.trans f.step) (f.conc c') .non p', fun v d H' μ' s' c' r' ⟨μ2, f, p'⟩ => kk _ _ H' μ2 (s'.trans f.step) (f.conc c') (r'.step f.step) p', fun _ _ _ _ _ _ _ z => z.elim, fun _ _ _ _ _ _ _ z => z.elim⟩⟩
  · match us, ws, hl with
    | [a], [b], _ =>
      obtain ⟨oc, od, dV, kV, doc, pm, an, cdv, ct, osl, rfl, lk, hcd, hD, hK⟩ := F.ex
      rcases hD with ⟨_, rfl⟩ | ⟨e, _⟩
      · exact BindsTo.of_eq (hb kV doc pm an cdv ct a b)
      · exact absurd rfl e
  · match vs, us, zs, ws, r1, r2 with
    | [_], [_], [_], [_], .cons a .nil, .cons b .nil => exact .cons a (.cons b .nil)
    | [], [], _, _, .nil, _ => exact .nil
    | _ :: _ :: _, _ :: _ :: _, _, _, .cons _ (.cons _ _), _ => exact .nil
    | [_], [_], [], [], .cons _ .nil, .nil => exact .nil
    | [_], [_], _ :: _ :: _, _ :: _ :: _, .cons _ .nil, .cons _ (.cons _ _) => exact .nil
end
theorem Tp.says_kp {fa : List He.Fa} {fn : List He.DefD} {ex : PySem.W.Frag → Bool} {K : PySem.W.Frag} {mg : Str → Option Value} (T : Tp fa fn ex K mg) (i : Nat) {d : He.DefD} (h : fn[i]? = some d) : PySem.W.keepIn K (.ref (He.fAd K d.at_)) = true := let ⟨_, F⟩ := T.says.def_ i h; F.kp
theorem uni65 {k : Nat} {A : Around} (r : Room k A) : A.units + 65 < cLine := by have := r.un; omega
theorem uni66 {k : Nat} {A : Around} (r : Room k A) : A.units + 1 + 65 < cLine := by have := r.un; omega
end L3
/-! L3Head -/
/-! L3Head: a head's Hook that looks at the machine's own names too. -/
namespace L3
open PySem PySem.Spec PyProof.Rows L2
/-- what a function, a class's names, a dict lead to -/
def fnTo (g : Addr → Option Obj) (a : Addr) : List Addr := match g a with
  | some ⟨_, _, .func fd, _⟩ => He.refV fd.code ++ (He.refV fd.defaults ++ fd.closure.map (·.2))
  | some ⟨_, _, .cls cd, _⟩ => [cd.ns]
  | _ => []
def dcTo (g : Addr → Option Obj) (a : Addr) : List Addr := match g a with
  | some ⟨_, _, .dict es _, _⟩ => es.toList.flatMap fun e => He.refV e.val
  | _ => []
/-- what the top's names reach, and the machine's own -/
def rootsZ (g : Addr → Option Obj) (l1 : List Addr) (l2 : List Addr) (l3 : List Addr) : List Addr := cStatics :: mainGlobals :: (l1 ++ (l2 ++ (l3 ++ l3.flatMap (fnTo g))))
def rootsB (g : Addr → Option Obj) (l1 l2 : List Addr) : List Addr := rootsZ g l1 l2 (l2.flatMap (dcTo g))
def rootsA (g : Addr → Option Obj) (l1 : List Addr) : List Addr := rootsB g l1 (l1.flatMap (fnTo g))
def rootsY (g : Addr → Option Obj) : List Addr := rootsA g (dcTo g mainGlobals)
def lookY (fa : List He.Fa) (fn : List He.DefD) (ts : List He.Tab) (tf : List He.Defn) (ex : PySem.W.Frag → Bool) (g : Addr → Option Obj) (K : PySem.W.Frag) : He.AlX := (He.obsT fa fn ts K, ex K && He.tabsB g tf K)
def obsY (fa : List He.Fa) (fn : List He.DefD) (ts : List He.Tab) (tf : List He.Defn) (ex : PySem.W.Frag → Bool) (g : Addr → Option Obj) : He.AlX := lookY fa fn ts tf ex g (He.frT g (rootsY g))
section
variable {fa : List He.Fa} {fn : List He.DefD} {ts : List He.Tab} {tf : List He.Defn} {ex : PySem.W.Frag → Bool} {w : World} {h : Heap}
theorem saysY {as : List Addr} (e : lookY fa fn ts tf ex h.get? (He.frT h.get? as) = He.valX fn ts w) : He.SaysX fa fn ts tf ex w h (He.frT h.get? as) := by
  generalize hK : He.frT h.get? as = K at e ⊢
  have e1 : He.obsT fa fn ts K = He.valT fn ts w := (Prod.ext_iff.mp e).1
  obtain ⟨h1, h2⟩ := He.ba (show (ex K && He.tabsB h.get? tf K) = true from (Prod.ext_iff.mp e).2)
  have key : ∀ p ∈ tf, PySem.W.codeHdIn K (He.cT K p).1 (He.cT K p).2 = true ∧ ∃ o, h.get? (He.cT K p).2 = some o ∧ He.emptyTab o = true := fun p hp => by
    have h3 := List.all_eq_true.mp h2 p hp
    rw [Bool.and_eq_true] at h3
    refine ⟨h3.1, ?_⟩
    have h4 := h3.2
    split at h4
    · rename_i o q
      exact ⟨o, q, h4⟩
    · cases h4
  refine ⟨e1, h1, fun p hp => (key p hp).1, fun p hp => ?_, fun p hp => ?_⟩
  · obtain ⟨_, o, q, z⟩ := key p hp
    have := He.frT_none (as := as) q z
    rw [hK] at this
    exact this
  · obtain ⟨_, o, q, z⟩ := key p hp
    rw [q, He.emptyTab_eq z]
end
def hookY (fa : List He.Fa) (fn : List He.DefD) (ts : List He.Tab) (tf : List He.Defn) (ex : PySem.W.Frag → Bool) : PySem.W.Hook where
  α := He.AlX
  obs s := obsY fa fn ts tf ex s.heap.get?
  val w := He.valX fn ts w
  says w h := ∃ K : PySem.W.Frag, K.In h ∧ He.SaysX fa fn ts tf ex w h K
  of _ _ e := ⟨_, He.frT_in, saysY e⟩
  keeps _ _ _ := fun ⟨K, hK, c⟩ k => ⟨K, PySem.W.Frag.In.keeps hK k, ⟨c.t, c.more, c.hd, c.out, fun p hp => k _ _ (c.empty p hp)⟩⟩
theorem obsY_eq {fa : List He.Fa} {fn : List He.DefD} {ts : List He.Tab} {tf : List He.Defn} {ex : PySem.W.Frag → Bool} {g : Addr → Option Obj} {s : Shared} (h : ∀ a, g a = s.heap.get? a) : obsY fa fn ts tf ex g = (hookY fa fn ts tf ex).obs s := by
  have e : g = s.heap.get? := funext h
  subst e
  rfl
/-- three looks at one run -/
theorem three {α β γ δ : Type} {o : Option α} {f : α → β} {g : α → γ} {k : α → δ} {a : β} {b : γ} {c : δ} (h1 : o.map f = some a) (h2 : o.map g = some b) (h3 : o.map k = some c) : o.map (fun x => (f x, g x, k x)) = some (a, b, c) := by
  cases o with
  | none => cases h1
  | some x =>
    cases h1
    cases h2
    cases h3
    rfl
theorem says_d {fa : List He.Fa} {fn : List He.DefD} {ts : List He.Tab} {tf : List He.Defn} {ex : PySem.W.Frag → Bool} {w : World} {h : Heap} {K : PySem.W.Frag} (c : He.SaysX fa fn ts tf ex w h K) : He.SaysD fa fn K := (Prod.ext_iff.mp (show He.obsT fa fn ts K = He.valT fn ts w from c.t)).1
end L3
/-! L3Set -/
/-! L3Set: sets of tuples of ints: made of a list, by a comprehension; sorted. -/
namespace L3
open PySem PySem.Spec PyProof.Rows L2 PySem.W
abbrev encI (l : List Int) : PyData := .tuple (l.map .int)
abbrev leI {α : Type} (f : α → List Int) : α → α → Bool := dataLe false fun x => encI (f x)
theorem each_refs {L : List (Addr × List Int)} : ∀ {vs : List Value}, EachIs (fun v (b : Addr × List Int) => v = Value.ref b.1) vs L → vs = L.map fun b => Value.ref b.1 := by
  induction L with
  | nil => intro vs h; cases h; rfl
  | cons b L ih => intro vs h; cases h with | cons e t => rw [e, ih t]; rfl
theorem refs_each : ∀ (L : List (Addr × List Int)) (Rr : Value → Addr × List Int → Prop), (∀ b ∈ L, Rr (Value.ref b.1) b) → EachIs Rr (L.map fun b => Value.ref b.1) L
  | [], _, _ => .nil
  | b :: L, Rr, h => .cons (h b List.mem_cons_self) (refs_each L Rr fun c hc => h c (List.mem_cons_of_mem _ hc))
theorem addrs_of {L : List (Addr × List Int)} : ∀ {vs : List Value}, (∀ v ∈ vs, ∃ q ∈ L, v = Value.ref q.1) → ∃ L1 : List (Addr × List Int), vs = L1.map (fun q => Value.ref q.1) ∧ ∀ q ∈ L1, q ∈ L
  | [], _ => ⟨[], rfl, fun q hq => (by cases hq)⟩
  | v :: vs, h => by
    obtain ⟨q, hq, e⟩ := h v List.mem_cons_self
    obtain ⟨L1, e1, hs⟩ := addrs_of fun u hu => h u (List.mem_cons_of_mem _ hu)
    refine ⟨q :: L1, by rw [List.map_cons, e, e1], fun r hr => ?_⟩
    rcases List.mem_cons.mp hr with z | z
    · rw [z]; exact hq
    · exact hs r z
theorem reads_ints {h : Heap} : ∀ {l : List Int} {us : List Value}, Vals (l.map V.int) us → ReadsAll h us (l.map .int) []
  | [], _, r => by cases r; exact .nil
  | x :: l, _, r => by
    rw [List.map_cons] at r
    cases r with
    | cons r1 r2 =>
      obtain ⟨t, rfl⟩ := r1
      exact .cons (Reads.int x t) (reads_ints r2)
def rSortSet (K : PySem.W.Frag) (P : Program) (w : World) : List V → Hp → VK → Prop := fun vs H Q => ∃ (a : Addr) (L : List (Addr × List Int)), vs = [V.ref a] ∧ H a = some (SetTO P w a L) ∧ (∀ p ∈ L, SqT K H p.1 (p.2.map V.int) ∧ p.2 ≠ [] ∧ (encI p.2).depth ≤ 50) ∧
  ∀ (L1 : List (Addr × List Int)) (p : Addr), (∀ q ∈ L1, q ∈ L) → (L1.map (·.2)).Perm (L.map (·.2)) → (L.map (·.2)).Nodup → L.length < 64 → H p = none → Q (.ref p) (upd H p (.lst ((L1.mergeSort (leI (·.2))).map fun q => V.ref q.1)))
theorem cr_sortSet {X : Cx} (hc : X.calm = true) (hu : X.A.units + 64 < cLine) : CallR X (.builtin "sorted") (rSortSet X.K X.prog X.w) := by
  intro pins s σ H vs us Q I r h
  obtain ⟨a, L, rfl, ha, hk, q⟩ := h
  have R0 : SetT0 X.prog X.w s.heap a L := (I.hok a _ ha).1
  obtain ⟨es, ep, t, R⟩ := R0.full fun p hp => I.isT (hk p hp).1
  rw [Vals.ref1 r]
  obtain ⟨o, ho, hex, hd⟩ := R.ob
  have hsz := R.size
  have hfew := R.few
  have rds : ∀ b ∈ L, Reads s.heap (.ref b.1) (encI b.2) [] := fun b hb => by
    obtain ⟨its, rv, ⟨o, ho, hc, n, hd⟩, _⟩ := I.tuple (hk b hb).1
    exact Reads.tuple ho hc hd (by simpa using reads_ints rv)
  refine Calls.call_function_entry kind_sorted plain_sorted entry_sorted (args_sorted1 _) ?_
  unfold Builtin.«sorted»
  refine wpAny_bind (m := checkCount "sorted" 1 1 _) (wpAny_pure ?_)
  refine wpAny_bind (collect_set (A := X.A.in1) (I.ok.hd hc) ⟨o, ho, hex.1, hd⟩ R.fits (by unfold scanBound; omega) R.tab.ris R.led fun s1 vs k1 hz g1 o1 pm => ?_)
  have hes : es.toList.map (·.2) = L.map fun q => Value.ref q.1 := by
    rw [R.rows]
    unfold L2.rowsOf
    rw [List.map_map] <;> rfl
  rw [hes] at pm
  obtain ⟨L1, e1, hs1⟩ := addrs_of (L := L) (vs := vs) fun v hv => by
    obtain ⟨q, hq, e⟩ := List.mem_map.mp (pm.mem_iff.mp hv)
    exact ⟨q, hq, e.symm⟩
  have hvl : vs.length < 64 := by rw [pm.length_eq, List.length_map]; exact hfew
  have hL1 : L1.length = vs.length := by rw [e1, List.length_map]
  refine wpAny_bind (wpAny_newList ?_ (by rw [sizeLine_eq]; omega))
  have hoL : (s1.heap.push (seqObj "list" vs.toArray 0)).get? s1.heap.objs.size = some (seqObj "list" vs.toArray 0) := Heap.get?_push_size _ rfl
  have kp : ∀ b u, s.heap.get? b = some u → (s1.heap.push (seqObj "list" vs.toArray 0)).get? b = some u := fun b u e => Heap.get?_push_of_some _ (k1 b u e)
  refine wpAny_bind (wpAny_holding (PySem.W.list_sort_data (s := { s1 with heap := s1.heap.push (seqObj "list" vs.toArray 0) }) (R := fun v (b : Addr × List Int) => v = Value.ref b.1) (enc := fun b => encI b.2) (bs := L1) hoL (by rw [e1]; exact refs_each L1 _ fun _ _ => rfl) (by
      have z := refs_each L1 (fun v b => ∃ as, Reads (s1.heap.push (seqObj "list" vs.toArray 0)) v (encI b.2) as ∧ s1.heap.objs.size ∉ as) fun b hb => ⟨[], PyProof.Rows.Reads.keeps (fun c u => kp c u) (rds b (hs1 b hb)), by simp⟩
      rw [← e1] at z
      exact z)
    (AllAlike.of fun b b' => by show PySem.W.alike (.tuple _) (.tuple _) = true; unfold PySem.W.alike; exact alike_ints _ _) (.inl fun d hd => by
      obtain ⟨b, hb, rfl⟩ := List.mem_map.mp hd
      have hne := (hk b (hs1 b hb)).2.1
      show ∃ x r, encI b.2 = _
      generalize b.2 = l0 at hne
      cases l0 with
      | nil => exact absurd rfl hne
      | cons x l => exact ⟨.int x, l.map .int, rfl⟩)
    (by rw [hL1, sizeLine_eq]; omega) (fun b hb => ?_) fun out ho' eo => ?_))
  · have := (hk b (hs1 b hb)).2.2
    show X.A.in1.units + 1 + PyData.depth (encI b.2) < cLine
    have e : X.A.in1.units = X.A.units + 1 := rfl
    omega
  · have eout : out = (L1.mergeSort (leI (·.2))).map fun q => Value.ref q.1 := each_refs eo
    obtain ⟨c, hcc⟩ := sortedHeap_at (vs := vs) (out := out.toArray) hoL
    have hn : H s1.heap.objs.size = none := I.hok.fresh hz
    have pm1 : (L1.map (·.2)).Perm (L.map (·.2)) := by
      have one : ∀ q ∈ L, ∀ r ∈ L, q.1 = r.1 → q = r := fun q hq r hr e => by
        have a1 := R.tup q hq
        have a2 := R.tup r hr
        rw [e] at a1
        exact Prod.ext e (a1.inj a2)
      have pa : (L1.map fun q => q.1).Perm (L.map fun q => q.1) := by
        rw [e1] at pm
        have := pm.map (fun v => match v with | Value.ref x => x | _ => 0)
        simpa [List.map_map, Function.comp_def] using this
      have f : ∀ l : List (Addr × List Int), (∀ q ∈ l, q ∈ L) → l.map (·.2) = (l.map (·.1)).map fun x => ((L.find? fun q => decide (q.1 = x)).map (·.2)).getD [] := fun l hl => by
        rw [List.map_map]
        refine List.map_congr_left fun q hq => ?_
        show q.2 = ((L.find? fun r => decide (r.1 = q.1)).map (·.2)).getD []
        cases e : L.find? fun r => decide (r.1 = q.1) with
        | none =>
          have := List.find?_eq_none.mp e q (hl q hq)
          simp at this
        | some r =>
          have h1 := List.find?_some e
          have h2 := List.mem_of_find?_eq_some e
          rw [one r h2 q (hl q hq) (by simpa using h1)]
          rfl
      rw [f L1 hs1, f L fun q h => h]
      exact pa.map _
    have old : ∀ b u, s.heap.get? b = some u → (sortedHeap (s1.heap.push (seqObj "list" vs.toArray 0)) s1.heap.objs.size vs out.toArray).get? b = some u := fun b u e => by
      have q := k1 b u e
      have hlt := Heap.lt_size q
      rw [sortedHeap_old (Nat.ne_of_lt hlt) (by rw [size_push']; exact Nat.lt_succ_of_lt hlt)]
      exact Heap.get?_push_of_some _ q
    have hv : Vals ((L1.mergeSort (leI (·.2))).map fun q => V.ref q.1) out := by
      rw [eout]
      exact vals_of_refs _
    have hlen : ((L1.mergeSort (leI (·.2))).map fun q => V.ref q.1).length ≤ sizeLine := by rw [List.length_map, List.length_mergeSort, hL1, sizeLine_eq]; omega
    have J : Inv X pins σ (upd H s1.heap.objs.size (.lst ((L1.mergeSort (leI (·.2))).map fun q => V.ref q.1))) { s with heap := (sortedHeap (s1.heap.push (seqObj "list" vs.toArray 0)) s1.heap.objs.size vs out.toArray), gens := s1.gens, drawn := s1.drawn, toks := s1.toks } :=
      I.call (ch := []) (Un.laid old hz hn) (I.hok.laid old hz ⟨hlen, out, c, hv, by simpa using hcc⟩) (by rw [g1]; exact I.bare) (fun _ z => nomatch z)
    refine wpAny_pure ⟨_, rfl, ?_⟩
    have e : ({ s1 with heap := (sortedHeap (s1.heap.push (seqObj "list" vs.toArray 0)) s1.heap.objs.size vs out.toArray) } : Shared) = { s with heap := (sortedHeap (s1.heap.push (seqObj "list" vs.toArray 0)) s1.heap.objs.size vs out.toArray), gens := s1.gens, drawn := s1.drawn, toks := s1.toks } := by
      cases s1
      cases s
      cases o1
      rfl
    show EP X pins σ Q (.ref s1.heap.objs.size) { s1 with heap := (sortedHeap (s1.heap.push (seqObj "list" vs.toArray 0)) s1.heap.objs.size vs out.toArray) }
    rw [e]
    exact ⟨.ref _, _, J, rfl, q L1 _ hs1 pm1 R.nd hfew hn⟩
end L3
/-! L3Set2 -/
/-! L3Set2: {elt for ..} of tuples of ints, sorted. -/
namespace L3
open PySem PySem.Spec PyProof.Rows L2
section
variable {X : Cx}
/-- set.add of a tuple -/
theorem add_tup {pins : List (Addr × Obj)} {σ : L2.St} {H : Hp} {s : Shared} {E : Value → Shared → Prop} {D b : Addr} {l : List Int} {L : List (Addr × List Int)} {Q : Value → Shared → Prop} (hu : X.A.units + 1 < cLine) (I : Inv X pins σ H s) (hD : H D = some (SetTO X.prog X.w D L)) (hb : SqT X.K H b (l.map V.int)) (hL : ∀ p ∈ L, SqT X.K H p.1 (p.2.map V.int)) (room : L.length + 1 < 64)
    (h : ∀ s' L', (l ∈ L.map (·.2) → L' = L) → (l ∉ L.map (·.2) → L'.Perm ((b, l) :: L)) → Inv X pins σ (upd H D (SetTO X.prog X.w D L')) s' → Q .none s') : wpAny (model X.prog X.w) X.A (call (.builtin "set.add") [.ref D, .ref b]) Q E s := by
  have R0 : SetT0 X.prog X.w s.heap D L := (I.hok D _ hD).1
  obtain ⟨es, ep, t, R⟩ := R0.full fun p hp => I.isT (hL p hp)
  obtain ⟨o, ho, hex, hd⟩ := R.ob
  refine wpAny_call_entry PySem.F.slot_set_add ⟨o, ho, hex.1⟩ PySem.F.entry_set_add ?_ (PySem.F.args_set_add_2 _ _)
  unfold Builtin.«set.add» Builtin.Frozenset.oneOther
  simp only [List.isEmpty_nil, bind_assoc]
  unfold Builtin.Frozenset.addrOf setAdd
  refine wpAny_bind (wpAny_pure ?_)
  try dsimp only
  refine wpAny_bind (wpAny_pure ?_)
  try dsimp only
  refine wpAny_bind ?_
  refine wpAny_holding ?_
  refine wpAny_bind (wpAny_pyHash_tuple (knd := intKind X.prog X.w) (show X.A.in1.units < cLine from hu) (I.isT hb) ?_)
  refine add_at (s := { s with toks := s.toks + (l.length + 1) }) (P := X.prog) (w := X.w) (A := X.A.in1) R (I.isT hb) (show X.A.in1.units < cLine from hu) room fun bb h' L' es' ep' t' sb new n1 n2 => ?_
  have he : ∃ u, h'.get? D = some u := let ⟨o, ho, _⟩ := new.ob; ⟨o, ho⟩
  show wpAny _ _ (ret Value.none) _ _ _
  exact wpAny_pure ⟨_, rfl, h _ L' n1 n2 (I.write (e := D) (t' := s.toks + (l.length + 1)) (by rw [hD]; trivial) (.inl rfl) (fun b u hb hu => (sb.2 b hb).trans hu) he (setTO_new new.t0))⟩

/-! ### {elt for ..} -/
def tlS (K : PySem.W.Frag) (P : Program) (w : World) (te : TE) : Addr → L2.St → Hp → (Hp → Prop) → Prop := fun D σ H Nx => te σ H fun y H4 => ∃ (b : Addr) (l : List Int) (L : List (Addr × List Int)), y = .ref b ∧ SqT K H4 b (l.map V.int) ∧ H4 D = some (SetTO P w D L) ∧
  (∀ p ∈ L, SqT K H4 p.1 (p.2.map V.int)) ∧ L.length + 1 < 64 ∧ ∀ L', (l ∈ L.map (·.2) → L' = L) → (l ∉ L.map (·.2) → L'.Perm ((b, l) :: L)) → Nx (upd H4 D (SetTO P w D L'))
def TlS (X : Cx) (elt : Expr) : TlT := fun D env G E s => wpAny (model X.prog X.w) X.A (eval elt env) (fun x s₄ => wpAny (model X.prog X.w) X.A (call (.builtin "set.add") [.ref D, x]) (fun _ s' => G s') E s₄) E s
theorem cmS {elt tg iter : Expr} {ifs : List Expr} {scope : Scope} {pos : Pos} : CmKind X (.SetComp elt [⟨tg, iter, ifs, 0⟩] scope pos) tg iter ifs (newSet (.type "set")) { cls := .type "set", dict := none, data := .set #[] 0 (.fresh 0 0 (!X.w.params.followText "set-order")) } (fun D => SetTO X.prog X.w D []) (TlS X elt) where
  new := fun h => PpSet.newSet_ok h
  ob := fun H h hb => setTO_new (setTR_fresh (P := X.prog) (w := X.w) (Heap.get?_push_size _ rfl)).t0
  start := PpSet.codeAny_compStart_set
  loop := fun I turn n h => PpSet.compLoopS_any I turn n h
theorem tail_S {elt : Expr} {te : TE} {scope : Scope} (hu : X.A.units + 1 < cLine) (he : ∀ (s : Shared) (H : Hp) (C : Addr) (cl : List (Str × Addr)) (fp : List Addr), PE (X.blk s H scope (compEnvC scope cl C X.env) fp) elt te)
    (s : Shared) (H : Hp) (C : Addr) (cl : List (Str × Addr)) (fp : List Addr) (D : Addr) (pins : List (Addr × Obj)) (σ2 : L2.St) (H2 : Hp) (s2 : Shared) (Nx : Hp → Prop) (G : Shared → Prop) (E : Value → Shared → Prop)
    (I : Inv (X.blk s H scope (compEnvC scope cl C X.env) fp) pins σ2 H2 s2) (h : tlS X.K X.prog X.w te D σ2 H2 Nx) (fin : ∀ s3 H3, Inv (X.blk s H scope (compEnvC scope cl C X.env) fp) pins σ2 H3 s3 → Nx H3 → G s3)
    (hx : ∀ e s', (X.blk s H scope (compEnvC scope cl C X.env) fp).xe e s' → E e s') : TlS X elt D (compEnvC scope cl C X.env) G E s2 := by
  refine wpAny_mono ((he s H C cl fp).run pins s2 σ2 H2 _ I h) (fun kv s4 ⟨y, H4, I4, r4, b, l, L, ey, hb, hD, hL, room, nx⟩ => ?_) fun e s' z => hx e s' z
  subst ey
  cases (show kv = Value.ref b from r4)
  exact add_tup (X := X.blk s H scope (compEnvC scope cl C X.env) fp) hu I4 hD hb hL room fun s' L' n1 n2 I' => fin s' _ I' (nx L' n1 n2)
theorem pe_scT {elt tg iter : Expr} {ifs : List Expr} {scope : Scope} {own : List (Str × Nat)} {pos : Pos} {wi : TI} {g : TG} {tt : TT} {te : TE} (hu : X.A.units + 1 < cLine) (hc : X.calm = true) (hN : X.N.Nodup) (hi : PI X tg iter wi) (ok : BlkOk X.N X.env.scope scope own)
    (hg : ∀ (s : Shared) (H : Hp) (C : Addr) (cl : List (Str × Addr)) (fp : List Addr), PG (X.blk s H scope (compEnvC scope cl C X.env) fp) tg g) (ht : ∀ (s : Shared) (H : Hp) (C : Addr) (cl : List (Str × Addr)) (fp : List Addr), PTs (X.blk s H scope (compEnvC scope cl C X.env) fp) ifs tt)
    (he : ∀ (s : Shared) (H : Hp) (C : Addr) (cl : List (Str × Addr)) (fp : List Addr), PE (X.blk s H scope (compEnvC scope cl C X.env) fp) elt te) (hs : ∀ x, foldedSetIterable iter X.env x = pure x := by intro _; rfl) :
    PE X (.SetComp elt [⟨tg, iter, ifs, 0⟩] scope pos) (tCm (fun D => SetTO X.prog X.w D []) wi g tt (own.map (·.2)) (tlS X.K X.prog X.w te)) :=
  pe_cm (gs := []) cmS hc hN hi ok hg ht (tail_S hu he) hs rfl rfl
end
end L3
/-! L3Set3 -/
/-! L3Set3: sorted({elt for ..}), sorted(set(xs)), sorted(d), d with tuple keys, over data. -/
namespace L3
open PySem PySem.Spec PyProof.Rows L2 PySem.W
def tupI (l : List Int) : D := .tup (l.map .int)
theorem tupI_V {K : PySem.W.Frag} {H : Hp} {μ : Mu} {U : Hid} {y : V} {l : List Int} (r : RepV K H μ U y (tupI l)) : ∃ b, y = .ref b ∧ H b = some (.tup (l.map V.int)) := by
  cases r with
  | tup h n u rl =>
    rw [rl.ints] at h
    exact ⟨_, rfl, h⟩
section
variable {X : Cx} {pos p cpos : Pos}
def addL (acc : List (List Int)) (l : List Int) : List (List Int) := if l ∈ acc then acc else acc ++ [l]
def scD (g : WG) (tt : WT) (te : WE) (vs : List Nat) (chk : Mu → Prop) (R : List (List Int) → Mu → Prop) (δ : De) : List D → List (List Int) → Mu → Prop
  | [], acc, μ => chk μ ∧ R acc μ
  | x :: xs, acc, μ => chk μ ∧ g x (wipeD δ vs) fun δ' => tt δ' μ fun b μ1 => if b = true then te δ' μ1 fun y μ2 => ∃ l, y = tupI l ∧ l ≠ [] ∧ (encI l).depth ≤ 50 ∧ scD g tt te vs chk R δ xs (addL acc l) μ2 else scD g tt te vs chk R δ xs acc μ1
def sortedP (P : D → Mu → Prop) : List (List Int) → Mu → Prop := fun acc μ => ∀ ys : List (List Int), ys.Perm acc → P (.lst ((ys.mergeSort (leI id)).map tupI)) μ
def wSortSc (wi : WI) (g : WG) (tt : WT) (te : WE) (vs : List Nat) : WE := fun δ μ P => wi δ μ fun ds chk μ1 => ds.length < 64 ∧ scD g tt te vs chk (sortedP P) δ ds [] μ1
theorem scD_chk {g : WG} {tt : WT} {te : WE} {vs : List Nat} {chk : Mu → Prop} {R : List (List Int) → Mu → Prop} {δ : De} {ds : List D} {acc : List (List Int)} {μ : Mu} (h : scD g tt te vs chk R δ ds acc μ) : chk μ := by
  cases ds with
  | nil => exact h.1
  | cons a r => exact h.1
theorem addL_len (acc : List (List Int)) (l : List Int) : (addL acc l).length ≤ acc.length + 1 := by
  unfold addL
  split
  · omega
  · rw [List.length_append]; exact Nat.le_refl _
/-- the sorted set as a new list -/
theorem sortL_new0 {K : PySem.W.Frag} {H : Hp} {μ : Mu} {U : Hid} {P : D → Mu → Prop} {Q : VK} {L1 : List (Addr × List Int)} {q : Addr} (c : ConcM K H μ U) (k : Pst K H μ U (fun H' μ' v d => RepV K H' μ' U v d) P Q)
    (hr : ∀ p ∈ L1, RepV K H μ U (.ref p.1) (tupI p.2)) (w1 : P (.lst (((L1.map (·.2)).mergeSort (leI id)).map tupI)) μ) (hq : H q = none) : Q (.ref q) (upd H q (.lst ((L1.mergeSort (leI (·.2))).map fun p => V.ref p.1))) := by
  have m := List.map_mergeSort (r := leI fun p : Addr × List Int => p.2) (s := leI id) (f := fun p : Addr × List Int => p.2) (l := L1) (fun a _ b _ => rfl)
  rw [← m, List.map_map] at w1
  have hz := RepL.of_zip (K := K) (H := H) (μ := μ) (U := U) (zs := (L1.mergeSort (leI fun p : Addr × List Int => p.2)).map fun p => (V.ref p.1, tupI p.2)) fun z hz => by
    obtain ⟨p, hp, rfl⟩ := List.mem_map.mp hz
    exact hr p ((List.mergeSort_perm _ _).mem_iff.mp hp)
  rw [List.map_map, List.map_map] at hz
  exact (new_tree c k hz hq).1 w1
theorem sortL_new {K : PySem.W.Frag} {H : Hp} {μ : Mu} {U : Hid} {P : D → Mu → Prop} {Q : VK} {L1 : List (Addr × List Int)} {acc : List (List Int)} {q : Addr} (c : ConcM K H μ U) (k : Pst K H μ U (fun H' μ' v d => RepV K H' μ' U v d) P Q)
    (hr : ∀ p ∈ L1, RepV K H μ U (.ref p.1) (tupI p.2)) (pm : (L1.map (·.2)).Perm acc) (w : sortedP P acc μ) (hq : H q = none) : Q (.ref q) (upd H q (.lst ((L1.mergeSort (leI (·.2))).map fun p => V.ref p.1))) :=
  sortL_new0 c k hr (w (L1.map (·.2)) pm) hq
theorem sc_ok {wi : WI} {g : WG} {ix : List Nat} {tt : WT} {te : WE} {vs : List Nat} (hix : ∀ i ∈ ix, i ∈ vs) : ∀ σ H Q, liftE X.K (wSortSc wi g tt te vs) σ H Q →
    tCB (rSortSet X.K X.prog X.w) (tCons (tCm (fun L => SetTO X.prog X.w L []) (liftI X.K wi) (liftG X.K g ix) (liftT X.K tt) vs (tlS X.K X.prog X.w (liftE X.K te))) tNil) σ H Q := by
  rintro σ H Q ⟨U, δ, μ, P, c, e, w, k⟩
  refine ⟨U, δ, μ, _, c, e, w, fun J ds chk H1 μ1 s1 c1 y ⟨hz, f⟩ D hD => ?_⟩
  refine ⟨fun i m H' => m = ds.length - i ∧ i ≤ ds.length ∧ ∃ L acc μ', Step H1 μ1 H' μ' ∧ ConcM X.K H' μ' (hide U D) ∧ ConcE X.K H' μ' (hide U D) σ δ ∧ H' D = some (SetTO X.prog X.w D L) ∧ μ' D = none ∧ (L.map (·.2)).Perm acc ∧ (∀ p ∈ L, RepV X.K H' μ' (hide U D) (.ref p.1) (tupI p.2) ∧ p.2 ≠ [] ∧ (encI p.2).depth ≤ 50) ∧ acc.length ≤ i ∧
    Keep H1 μ1 U H' μ' (hide U D) ∧ scD g tt te vs chk (sortedP P) δ (ds.drop i) acc μ', ⟨ds.length, rfl, Nat.zero_le _, [], [], μ1, Step.new hD, c1.hide hD, (e.step s1).keep (keep_hide hD), upd_same, c1.no hD, .nil, (fun p h => by cases h), Nat.le_refl _, keep_hide hD, f⟩, ?_⟩
  rintro i m H' ⟨hm, hi, L, acc, μ', s', c', e', hL', nL, pm, ra, hacc, kp, f'⟩
  obtain ⟨y1, y2⟩ := y H' μ' (hide U D) kp c' (scD_chk f') i
  by_cases hlt : i < ds.length
  · obtain ⟨go, yl⟩ := y1 hlt
    refine .inr ⟨go, fun H2 => ∃ L acc μ2, Step H1 μ1 H2 μ2 ∧ ConcM X.K H2 μ2 (hide U D) ∧ ConcE X.K H2 μ2 (hide U D) σ δ ∧ H2 D = some (SetTO X.prog X.w D L) ∧ μ2 D = none ∧ (L.map (·.2)).Perm acc ∧ (∀ p ∈ L, RepV X.K H2 μ2 (hide U D) (.ref p.1) (tupI p.2) ∧ p.2 ≠ [] ∧ (encI p.2).depth ≤ 50) ∧ acc.length ≤ i + 1 ∧
      Keep H1 μ1 U H2 μ2 (hide U D) ∧ scD g tt te vs chk (sortedP P) δ (ds.drop (i + 1)) acc μ2, fun H2 h2 => ⟨ds.length - (i + 1), by omega, rfl, hlt, h2⟩, fun x H2 yx => ?_⟩
    obtain ⟨st, c2, d, hd, rd⟩ := yl x H2 yx
    have ed : ds.drop i = d :: ds.drop (i + 1) := by
      rw [List.drop_eq_getElem_cons hlt]
      rw [List.getElem?_eq_getElem hlt] at hd
      rw [Option.some.inj hd]
    rw [ed] at f'
    have e2 := e'.step st
    refine ⟨hide U D, d, wipeD δ vs, μ', _, c2, e2.wipe vs, rd, f'.2, fun σ3 δ3 e3 p3 w3 => ⟨?_, hide U D, δ3, μ', _, c2, e3, p3, fun b b' H4 μ4 s4 c4 eb p4 => ?_⟩⟩
    · rw [w3 vs hix]
      exact wipe_wipe σ vs
    · subst eb
      obtain ⟨hL2, nL2⟩ := st D _ hL' nL
      obtain ⟨hL4, nL4⟩ := s4 D _ hL2 nL2
      have r4 : ∀ p ∈ L, RepV X.K H4 μ4 (hide U D) (.ref p.1) (tupI p.2) ∧ p.2 ≠ [] ∧ (encI p.2).depth ≤ 50 := fun p hp => ⟨((ra p hp).1.step st).step s4, (ra p hp).2⟩
      have k4 : Keep H1 μ1 U H4 μ4 (hide U D) := kp.trans ((st.trans s4).kp _)
      cases b with
      | true =>
        rw [if_pos rfl] at p4 ⊢
        refine ⟨hide U D, δ3, μ4, _, c4, e3.step s4, p4, fun yv yd H5 μ5 s5 c5 r5 ⟨l, ey, hne, hdp, p5⟩ => ?_⟩
        subst ey
        obtain ⟨hL5, nL5⟩ := s5 D _ hL4 nL4
        have kw : ∀ o, Keep H5 μ5 (hide U D) (upd H5 D o) μ5 (hide U D) := fun o => keep_hidden (.inr rfl)
        have hlen : L.length = acc.length := by have := pm.length_eq; rw [List.length_map] at this; exact this
        obtain ⟨b, rfl, hb⟩ := tupI_V r5
        have r5' : ∀ p ∈ L, RepV X.K H5 μ5 (hide U D) (.ref p.1) (tupI p.2) := fun p hp => (r4 p hp).1.step s5
        refine ⟨b, l, L, rfl, .inl (.inl hb), hL5, fun p hp => ?_, by omega, fun L' n1 n2 => ?_⟩
        · obtain ⟨b', e', hb'⟩ := tupI_V (r5' p hp)
          cases e'
          exact .inl (.inl hb')
        · have pm' : (L'.map (·.2)).Perm (addL acc l) := by
            unfold addL
            by_cases q : l ∈ L.map (·.2)
            · rw [n1 q, if_pos (pm.mem_iff.mp q)]; exact pm
            · rw [if_neg fun z => q (pm.mem_iff.mpr z)]
              refine ((n2 q).map (·.2)).trans ?_
              exact (List.Perm.cons l pm).trans (List.perm_append_singleton l acc).symm
          have rm : ∀ p ∈ L', RepV X.K H5 μ5 (hide U D) (.ref p.1) (tupI p.2) ∧ p.2 ≠ [] ∧ (encI p.2).depth ≤ 50 := fun p hp => by
            by_cases q : l ∈ L.map (·.2)
            · rw [n1 q] at hp
              exact ⟨r5' p hp, (ra p hp).2⟩
            · rcases List.mem_cons.mp ((n2 q).mem_iff.mp hp) with rfl | hp
              · exact ⟨r5, hne, hdp⟩
              · exact ⟨r5' p hp, (ra p hp).2⟩
          refine ⟨L', addL acc l, μ5, fun b o hb nb => ?_, c5.hidden (.inr rfl), (((e2.step s4).step s5).keep (kw _)), upd_same, nL5, pm', fun p hp => ⟨(rm p hp).1.keep (kw _), (rm p hp).2⟩, Nat.le_trans (addL_len _ _) (Nat.succ_le_succ hacc), (k4.trans (s5.kp _)).trans (kw _), p5⟩
          have := ((s'.trans st).trans s4).trans s5 b o hb nb
          rw [upd_ne (ne_of_none hb hD)]
          exact this
      | false =>
        rw [if_neg Bool.false_ne_true] at p4 ⊢
        exact ⟨L, acc, μ4, (s'.trans st).trans s4, c4, e2.step s4, hL4, nL4, pm, r4, Nat.le_succ_of_le hacc, k4, p4⟩
  · have hi' : i = ds.length := by omega
    subst hi'
    rw [List.drop_length] at f'
    refine .inl ⟨y2 rfl, ?_⟩
    have ru : ∀ p ∈ L, RepV X.K H' μ' U (.ref p.1) (tupI p.2) := fun p hp => (ra p hp).1.keep keep_unhide
    refine ⟨D, L, rfl, hL', fun p hp => ?_, fun L1 q hs1 pm1 _ _ hq => sortL_new c'.unhide (k.on (s1.trans s')) (fun p hp => ru p (hs1 p hp)) (pm1.trans pm) f'.2 hq⟩
    obtain ⟨b', e', hb'⟩ := tupI_V (ru p hp)
    cases e'
    exact ⟨.inl (.inl hb'), (ra p hp).2⟩
theorem de_sortSc {elt tg iter : Expr} {ifs : List Expr} {scope : Scope} {own : List (Str × Nat)} {wi : WI} {g : WG} {ix : List Nat} {tt : WT} {te : WE} (hu : X.A.units + 64 < cLine) (hm : X.mg "sorted" = none) (hc : X.calm = true) (hN : X.N.Nodup) (hi : DI X tg iter wi) (ok : BlkOk X.N X.env.scope scope own)
    (hg : ∀ (s : Shared) (H : Hp) (C : Addr) (cl : List (Str × Addr)) (fp : List Addr), DG (X.blk s H scope (compEnvC scope cl C X.env) fp) tg g ix) (ht : ∀ (s : Shared) (H : Hp) (C : Addr) (cl : List (Str × Addr)) (fp : List Addr), PTs (X.blk s H scope (compEnvC scope cl C X.env) fp) ifs (liftT X.K tt))
    (he : ∀ (s : Shared) (H : Hp) (C : Addr) (cl : List (Str × Addr)) (fp : List Addr), DE (X.blk s H scope (compEnvC scope cl C X.env) fp) elt te) (hgl : Gl X "sorted" := by rfl) (hix : ∀ i ∈ ix, i ∈ own.map (·.2) := by decide) (hs : ∀ x, foldedSetIterable iter X.env x = pure x := by intro _; rfl) {cp : Pos}
    (hst : starEach [.SetComp elt [⟨tg, iter, ifs, 0⟩] scope cp] X.env = (false, eval (.SetComp elt [⟨tg, iter, ifs, 0⟩] scope cp) X.env) :: starEach [] X.env := by rfl) (hpl : (backTo pos (starEach [] X.env)).any (·.1) = false := by rfl) :
    DE X (.Call (.Name "sorted" p) [.SetComp elt [⟨tg, iter, ifs, 0⟩] scope cp] [] pos) (wSortSc wi g tt te (own.map (·.2))) :=
  weakE (pe_callB (cr_sortSet hc hu) hgl hm boot_sorted (pa_cons (pe_scT (by omega) hc hN hi ok (fun s H C cl fp => (hg s H C cl fp).run) ht he hs) pa_nil hst) (by decide) (by decide) hst hpl) (sc_ok hix)
/-! ### sorted(set(xs)) -/
def wSortSet (w : WE) : WE := fun δ μ P => w δ μ fun d μ1 => ∃ ls : List (List Int), walkL μ1 d = some (ls.map tupI) ∧ ls.length < 64 ∧ (∀ l ∈ ls, l ≠ [] ∧ (encI l).depth ≤ 50) ∧ ∀ acc : List (List Int), acc.Nodup → (∀ l, l ∈ acc ↔ l ∈ ls) → sortedP P acc μ1
theorem ss_ok {w : WE} : ∀ σ H Q, liftE X.K (wSortSet w) σ H Q → tCB (rSortSet X.K X.prog X.w) (tCons (tCB (rSetOfT X.K X.prog X.w) (tCons (liftE X.K w) tNil)) tNil) σ H Q := by
  rintro σ H Q ⟨U, δ, μ, P, c, ce, w, k⟩
  refine ⟨U, δ, μ, _, c, ce, w, fun v d H1 μ1 s1 c1 r1 ⟨ls, hw, h64, hls, w1⟩ => ?_⟩
  obtain ⟨a, ws, rfl, hq, rl⟩ := walkL_rd c1 r1 hw
  have addr : ∀ {ws : List V} {ls : List (List Int)}, RepL X.K H1 μ1 U ws (ls.map tupI) → ∃ ks : List (Addr × List Int), ws = ks.map (fun p => V.ref p.1) ∧ ls = ks.map (·.2) ∧ ∀ p ∈ ks, RepV X.K H1 μ1 U (.ref p.1) (tupI p.2) := by
    intro ws ls r
    induction ls generalizing ws with
    | nil => cases r; exact ⟨[], rfl, rfl, fun p h => by cases h⟩
    | cons l ls ih =>
      rw [List.map_cons] at r
      cases r with
      | cons q1 q2 =>
        obtain ⟨ks, h1, h2, h3⟩ := ih q2
        obtain ⟨b, rfl, hb⟩ := tupI_V q1
        refine ⟨(b, l) :: ks, by rw [h1]; rfl, by rw [h2]; rfl, fun p hp => ?_⟩
        rcases List.mem_cons.mp hp with rfl | hp
        · exact q1
        · exact h3 p hp
  obtain ⟨ks, e1, e2, hk⟩ := addr rl
  subst e1 e2
  have sq : ∀ {H2 : Hp} {μ2 : Mu}, (∀ p ∈ ks, RepV X.K H2 μ2 U (.ref p.1) (tupI p.2)) → ∀ p ∈ ks, SqT X.K H2 p.1 (p.2.map V.int) := fun h p hp => by
    obtain ⟨b', e', hb'⟩ := tupI_V (h p hp)
    cases e'
    exact .inl (.inl hb')
  refine ⟨a, ks, rfl, hq, sq hk, by rw [List.length_map] at h64; exact h64, fun D L hD sub all => ?_⟩
  have st : Step H1 μ1 (upd H1 D (SetTO X.prog X.w D L)) μ1 := Step.new hD
  have c2 := c1.new (o := SetTO X.prog X.w D L) hD
  have hk2 : ∀ p ∈ ks, RepV X.K (upd H1 D (SetTO X.prog X.w D L)) μ1 U (.ref p.1) (tupI p.2) := fun p hp => (hk p hp).step st
  refine ⟨D, L, rfl, upd_same, fun p hp => ⟨sq hk2 p (sub p hp), hls p.2 (List.mem_map_of_mem (sub p hp))⟩, fun L1 q hs1 pm1 nd _ hq2 => sortL_new c2 (k.on (s1.trans st)) (fun p hp => hk2 p (sub p (hs1 p hp))) pm1 (w1 (L.map (·.2)) nd fun l => ⟨fun hl => ?_, fun hl => ?_⟩) hq2⟩
  · obtain ⟨p, hp, rfl⟩ := List.mem_map.mp hl
    exact List.mem_map_of_mem (sub p hp)
  · obtain ⟨p, hp, rfl⟩ := List.mem_map.mp hl
    exact all p hp
theorem de_sortSet {e : Expr} {w : WE} {p2 pos2 : Pos} (hu : X.A.units + 64 < cLine) (hm : X.mg "sorted" = none) (hm2 : X.mg "set" = none) (hc : X.calm = true) (he : DE X e w) (hgl : Gl X "sorted" := by rfl) (hgl2 : Gl X "set" := by rfl)
    (hst : starEach [.Call (.Name "set" p2) [e] [] pos2] X.env = (false, eval (.Call (.Name "set" p2) [e] [] pos2) X.env) :: starEach [] X.env := by rfl) (hst2 : starEach [e] X.env = (false, eval e X.env) :: starEach [] X.env := by rfl) (hpl : (backTo pos (starEach [] X.env)).any (·.1) = false := by rfl) (hpl2 : (backTo pos2 (starEach [] X.env)).any (·.1) = false := by rfl) :
    DE X (.Call (.Name "sorted" p) [.Call (.Name "set" p2) [e] [] pos2] [] pos) (wSortSet w) :=
  weakE (pe_callB (cr_sortSet hc hu) hgl hm boot_sorted (pa_cons (pe_callTy (cr_setOfT hc hu) hgl2 hm2 boot_set (pa_cons he pa_nil hst2) (by decide) (by decide) hst2 hpl2) pa_nil hst) (by decide) (by decide) hst hpl) ss_ok
end
end L3
/-! L3SortT -/
/-! L3SortT: sorted(d), d with keys that are tuples of ints; min of a list of pairs; a, b, c = ..; lists that will change by a comprehension. -/
namespace L3
open PySem PySem.Spec PyProof.Rows L2 PySem.W
def kI (l : List Int) : List Key := l.map Sum.inl
theorem kI_V (l : List Int) : (kI l).map kV = l.map V.int := by unfold kI; rw [List.map_map]; rfl
theorem kI_D (l : List Int) : (kI l).map kD = l.map D.int := by unfold kI; rw [List.map_map]; rfl
def rSortDT : List V → Hp → VK → Prop := fun vs H Q => ∃ (a : Addr) (g : List (List Int × V)), vs = [V.ref a] ∧ Rd H a (.dT (g.map fun p => (kI p.1, p.2))) ∧ (∀ p ∈ g, p.1 ≠ [] ∧ (encI p.1).depth ≤ 50) ∧ g.length ≤ 1000 ∧
  ∀ (L1 : List (Addr × List Int)) (p : Addr), L1.map (·.2) = g.map (·.1) → (∀ q ∈ L1, H q.1 = some (.tup (q.2.map V.int))) → H p = none → Q (.ref p) (upd H p (.lst ((L1.mergeSort (leI (·.2))).map fun q => V.ref q.1)))
theorem kt_addrs {H : Hp} : ∀ {g : List (List Int × V)} {ks : List (List Key × Addr × Value)}, KT H (g.map fun p => (kI p.1, p.2)) ks → ∃ L1 : List (Addr × List Int), ks.map (fun x => x.2.1) = L1.map (·.1) ∧ L1.map (·.2) = g.map (·.1) ∧ ∀ q ∈ L1, H q.1 = some (.tup (q.2.map V.int))
  | [], _, r => by cases r; exact ⟨[], rfl, rfl, fun q h => by cases h⟩
  | p :: g, _, r => by
    rw [List.map_cons] at r
    cases r with
    | cons h t =>
      obtain ⟨L1, e1, e2, e3⟩ := kt_addrs t
      rename_i x xs
      refine ⟨(x.2.1, p.1) :: L1, by rw [List.map_cons, List.map_cons, e1], by rw [List.map_cons, List.map_cons, e2], fun q hq => ?_⟩
      rcases List.mem_cons.mp hq with rfl | hq
      · have h2 := h.2.1
        have h2 : H x.2.1 = some (.tup ((kI p.1).map kV)) := h2
        rw [kI_V] at h2
        exact h2
      · exact e3 q hq
theorem cr_sortDT {X : Cx} (hc : X.calm = true) (hu : X.A.units + 64 < cLine) : CallR X (.builtin "sorted") rSortDT := by
  intro pins s σ H vs us Q I r h
  obtain ⟨a, g, rfl, hd, hk, hlen, q⟩ := h
  rw [Vals.ref1 r]
  obtain ⟨z, hs, ks, pr, o, es, ep, ho, hx, hdt, he, hn⟩ := (show ObjOk X.prog X.w H s.heap a (.dT (g.map fun p => (kI p.1, p.2))) from hd.ok I.hok)
  have l1 : es.size = ks.length := size_of_entries he
  have l2 : g.length = ks.length := by have := Paired.length pr; rw [List.length_map] at this; exact this
  obtain ⟨L1, e1, e2, e3⟩ := kt_addrs pr
  have hL1 : L1.length = g.length := by have := congrArg List.length e2; rw [List.length_map, List.length_map] at this; exact this
  refine Calls.call_function_entry kind_sorted plain_sorted entry_sorted (args_sorted1 _) ?_
  unfold Builtin.«sorted»
  refine wpAny_bind (m := checkCount "sorted" 1 1 _) (wpAny_pure ?_)
  refine wpAny_bind (PySem.W.kdu_collect (A := X.A.in1) (kdl_raw hs hx hdt) (I.ok.hd hc) ho (by rw [sizeLine_eq]; omega) fun h' tk acc k1 it => ?_)
  have ea : acc.toList = L1.map fun x => Value.ref x.1 := by
    have hl : acc.toList.length = ks.length := by rw [Array.length_toList, it.1]; exact l1
    have e0 : (L1.map fun x => Value.ref x.1) = ks.map fun x => Value.ref x.2.1 := by
      have := congrArg (List.map Value.ref) e1
      rw [List.map_map, List.map_map] at this
      exact this.symm
    rw [e0]
    apply List.ext_getElem?
    intro j
    rw [List.getElem?_map]
    cases hj : acc.toList[j]? with
    | none =>
      have h1 := List.getElem?_eq_none_iff.mp hj
      rw [List.getElem?_eq_none (by omega)]
      rfl
    | some v =>
      obtain ⟨en, hen, hv⟩ := it.2 j v (by rw [← Array.getElem?_toList]; exact hj)
      have qe := entry_at he j
      rw [hen] at qe
      cases hb : ks[j]? with
      | none =>
        rw [hb] at qe
        exact nomatch (show some en = none from qe)
      | some b =>
        rw [hb] at qe
        have e2 : en = entryOfKey (tupleKind (mixKind X.prog X.w)) b := Option.some.inj qe
        rw [hv, e2]
        rfl
  have I1 : Inv X pins σ H { s with heap := h', toks := tk } := I.kept k1
  have hk1 : ∀ b ∈ L1, b.2 ≠ [] ∧ (encI b.2).depth ≤ 50 := fun b hb => by
    have : b.2 ∈ g.map (·.1) := by rw [← e2]; exact List.mem_map_of_mem hb
    obtain ⟨p, hp, ep⟩ := List.mem_map.mp this
    rw [← ep]
    exact hk p hp
  have rds : ∀ b ∈ L1, Reads h' (.ref b.1) (encI b.2) [] := fun b hb => by
    obtain ⟨its, rv, ⟨o, ho, hc, n, hd⟩, _⟩ := I1.tuple (.inl (.inl (e3 b hb)))
    exact Reads.tuple ho hc hd (by simpa using reads_ints rv)
  have hal : acc.toList.length = L1.length := by rw [ea, List.length_map]
  refine wpAny_bind (wpAny_newList ?_ (by rw [hal, sizeLine_eq]; omega))
  generalize hvs : acc.toList = vs at ea hal
  have hoL : (h'.push (seqObj "list" vs.toArray 0)).get? h'.objs.size = some (seqObj "list" vs.toArray 0) := Heap.get?_push_size _ rfl
  have kp : ∀ b u, h'.get? b = some u → (h'.push (seqObj "list" vs.toArray 0)).get? b = some u := fun b u e => Heap.get?_push_of_some _ e
  show wpAny _ _ _ _ _ { s with heap := h'.push (seqObj "list" vs.toArray 0), toks := tk }
  refine wpAny_bind (wpAny_holding (PySem.W.list_sort_data (s := { s with heap := h'.push (seqObj "list" vs.toArray 0), toks := tk }) (R := fun v (b : Addr × List Int) => v = Value.ref b.1) (enc := fun b => encI b.2) (bs := L1) hoL (by rw [ea]; exact refs_each L1 _ fun _ _ => rfl) (by
      have z := refs_each L1 (fun v b => ∃ as, Reads (h'.push (seqObj "list" vs.toArray 0)) v (encI b.2) as ∧ h'.objs.size ∉ as) fun b hb => ⟨[], PyProof.Rows.Reads.keeps (fun c u => kp c u) (rds b hb), by simp⟩
      rw [← ea] at z
      exact z)
    (AllAlike.of fun b b' => by show PySem.W.alike (.tuple _) (.tuple _) = true; unfold PySem.W.alike; exact alike_ints _ _) (.inl fun d hd => by
      obtain ⟨b, hb, rfl⟩ := List.mem_map.mp hd
      have hne := (hk1 b hb).1
      show ∃ x r, encI b.2 = _
      generalize b.2 = l0 at hne
      cases l0 with
      | nil => exact absurd rfl hne
      | cons x l => exact ⟨.int x, l.map .int, rfl⟩)
    (by rw [sizeLine_eq]; omega) (fun b hb => ?_) fun out ho' eo => ?_))
  · have := (hk1 b hb).2
    show X.A.in1.units + 1 + PyData.depth (encI b.2) < cLine
    have e : X.A.in1.units = X.A.units + 1 := rfl
    omega
  · have eout : out = (L1.mergeSort (leI (·.2))).map fun q => Value.ref q.1 := each_refs eo
    obtain ⟨c, hcc⟩ := sortedHeap_at (vs := vs) (out := out.toArray) hoL
    have hn' : H h'.objs.size = none := I1.hok.fresh (Nat.le_refl _)
    have old : ∀ b u, h'.get? b = some u → (sortedHeap (h'.push (seqObj "list" vs.toArray 0)) h'.objs.size vs out.toArray).get? b = some u := fun b u e => by
      have hlt := Heap.lt_size e
      rw [sortedHeap_old (Nat.ne_of_lt hlt) (by rw [size_push']; exact Nat.lt_succ_of_lt hlt)]
      exact Heap.get?_push_of_some _ e
    have hv : Vals ((L1.mergeSort (leI (·.2))).map fun q => V.ref q.1) out := by
      rw [eout]
      exact vals_of_refs _
    have hlen2 : ((L1.mergeSort (leI (·.2))).map fun q => V.ref q.1).length ≤ sizeLine := by rw [List.length_map, List.length_mergeSort, sizeLine_eq]; omega
    have J : Inv X pins σ (upd H h'.objs.size (.lst ((L1.mergeSort (leI (·.2))).map fun q => V.ref q.1))) { s with heap := (sortedHeap (h'.push (seqObj "list" vs.toArray 0)) h'.objs.size vs out.toArray), toks := tk } :=
      I1.laid (t' := tk) old (Nat.le_refl _) ⟨hlen2, out, c, hv, by simpa using hcc⟩
    exact wpAny_pure ⟨_, rfl, .ref _, _, J, rfl, q L1 _ e2 e3 hn'⟩
/-- sorted(d): d a dict (tree or changing) with keys of ints -/
def gSortDT : GN := fun ds μ P => ∃ (d : D) (g : List (List Int × D)), ds = [d] ∧ dicT μ d = some (g.map fun p => (kI p.1, p.2)) ∧ (∀ p ∈ g, p.1 ≠ [] ∧ (encI p.1).depth ≤ 50) ∧ g.length ≤ 1000 ∧ P (.lst (((g.map (·.1)).mergeSort (leI id)).map tupI)) μ
theorem cd_sortDT {K : PySem.W.Frag} : CallD K rSortDT gSortDT := by
  intro U H μ vs ds P Q c r ⟨d, g, e, hd, hk, hl, p⟩ k
  subst e
  obtain ⟨v, rfl, rv⟩ := rep1 r
  obtain ⟨a, fs, rfl, h1, ek, er⟩ := dicT_rd c rv hd
  have ek2 : fs.map (·.1) = g.map fun p => kI p.1 := by rw [ek, List.map_map]; rfl
  have hfs : fs = (g.zip (fs.map (·.2))).map fun p => (kI p.1.1, p.2) := by
    clear h1 er ek hd hk hl p k rv r
    induction g generalizing fs with
    | nil =>
      cases fs with
      | nil => rfl
      | cons _ _ => cases ek2
    | cons x g ih =>
      cases fs with
      | nil => cases ek2
      | cons y fs =>
        rw [List.map_cons, List.map_cons] at ek2
        obtain ⟨q1, q2⟩ := List.cons.inj ek2
        rw [List.map_cons, List.zip_cons_cons, List.map_cons, ← ih fs q2]
        have q1 : y.1 = kI x.1 := q1
        rw [← q1]
  have hlz : (fs.map (·.2)).length = g.length := by have := congrArg List.length ek2; rw [List.length_map, List.length_map] at this; rw [List.length_map]; exact this
  let g' : List (List Int × V) := (g.zip (fs.map (·.2))).map fun p => (p.1.1, p.2)
  have hg1 : g'.map (·.1) = g.map (·.1) := by
    show ((g.zip (fs.map (·.2))).map fun p => (p.1.1, p.2)).map (·.1) = _
    rw [List.map_map]
    have : (g.zip (fs.map (·.2))).map (·.1) = g := zip_fst hlz.symm
    have t := congrArg (List.map (·.1)) this
    rw [List.map_map] at t
    exact t
  refine ⟨a, g', rfl, .inl (by rw [h1, hfs]; show _ = some (HO.dT (((g.zip _).map _).map _)); rw [List.map_map]; rfl), fun p hp => ?_, by show ((g.zip _).map _).length ≤ 1000; rw [List.length_map, List.length_zip]; omega, fun L1 q e2 e3 hq => ?_⟩
  · have : p.1 ∈ g.map (·.1) := by rw [← hg1]; exact List.mem_map_of_mem hp
    obtain ⟨x, hx, ex⟩ := List.mem_map.mp this
    rw [← ex]
    exact hk x hx
  · have hr : ∀ p ∈ L1, RepV K H μ U (.ref p.1) (tupI p.2) := fun p hp => by
      obtain ⟨n1, n2⟩ := c.tupFree (e3 p hp)
      exact .tup (e3 p hp) n1 n2 (RepL.of_ints _)
    exact sortL_new0 c k hr (by rw [e2, hg1]; exact p) hq
end L3
/-! L3Last -/
/-! L3Last: min over data, a, b, c = .., x[i], y[j] = .., names of the module. -/
namespace L3
open PySem PySem.Spec PyProof.Rows L2 PySem.W
def minOf (ps : List PyData) : PyData := match ps with
  | [] => .none
  | x :: xs => minD x xs
def rMinD (K : PySem.W.Frag) : List V → Hp → VK → Prop := fun vs H Q => ∃ (a : Addr) (xs : List V) (ps : List PyData), vs = [V.ref a] ∧ SqL K H a xs ∧ DpAll K H xs ps ∧ ps ≠ [] ∧ AlikeAll ps ∧ PyData.depthAll ps ≤ 50 ∧ ∀ (i : Nat) x, xs[i]? = some x → ps[i]? = some (minOf ps) → Q x H
theorem cr_minD {X : Cx} (hc : X.calm = true) (hu : X.A.units + 64 < cLine) : CallR X (.builtin "min") (rMinD X.K) := by
  intro pins s σ H vs us Q I r h
  obtain ⟨a, xs, ps, rfl, hs, hd, hne, hal, hdep, q⟩ := h
  obtain ⟨its, rv, hl, hz⟩ := I.list hs
  rw [Vals.ref1 r]
  obtain ⟨as, hr⟩ := Dp.readsAll I ps xs its hd rv
  cases ps with
  | nil => exact absurd rfl hne
  | cons p ps =>
    refine min_list_data (x := p) (xs := ps) (as := as) (I.ok.hd hc) hl.isList (by simpa using hr) hal (by omega) fun i v h' tk bs hv rd kp => ?_
    have hv : its[i]? = some v := by simpa using hv
    obtain ⟨cs, r2, hlt, _⟩ := readsAll_at hr i v hv
    have r3 := reads_keeps kp r2
    have hi : i < xs.length := by rw [rv.length]; exact (List.getElem?_eq_some_iff.mp hv).1
    obtain ⟨u, hu', ru⟩ := rv.get (List.getElem?_eq_getElem hi)
    rw [hv] at hu'
    cases hu'
    have e : (p :: ps)[i]? = some (minD p ps) := by
      rw [List.getElem?_eq_getElem hlt]
      have := (Reads.unique rd _ _ r3).1
      rw [this, List.getD_eq_getElem?_getD, List.getElem?_eq_getElem hlt]
      rfl
    exact ⟨xs[i], H, I.kept kp, ru, q i xs[i] (List.getElem?_eq_getElem hi) e⟩
/-- min(xs), xs a list of trees: the first least, as it stands -/
def gMinD : GN := fun ds μ P => ∃ d xs ps, ds = [d] ∧ walkL μ d = some xs ∧ toPyL xs = some ps ∧ ps ≠ [] ∧ AlikeAll ps ∧ PyData.depthAll ps ≤ 50 ∧ ∀ (i : Nat) x, xs[i]? = some x → ps[i]? = some (minOf ps) → P x μ
theorem cd_minD {K : PySem.W.Frag} : CallD K (rMinD K) gMinD := by
  intro U H μ vs ds P Q c r ⟨d, xs, ps, e, hw, hp, hne, hal, hdep, p⟩ k
  subst e
  obtain ⟨v, rfl, rv⟩ := rep1 r
  obtain ⟨a, ws, rfl, hq, rl⟩ := walkL_rd c rv hw
  exact ⟨a, ws, ps, rfl, hq, toPyL_Dp rl hp, hne, hal, hdep, fun i x hx he => by
    obtain ⟨z, h1, h2⟩ := rl.getV hx
    exact k _ _ H μ (Step.refl _ _) c h2 (p i z h1 he)⟩
section
variable {X : Cx} {pos pos' : Pos}
/-- i, j, l = x, y, z -/
def wPar3 (i j l : Nat) (r : WA) : WS := fun F δ μ => r δ μ fun ds μ1 => ∃ x y z, ds = [x, y, z] ∧ F.nx (((δ.set i (some x)).set j (some y)).set l (some z)) μ1
theorem ds_par3 {i j l : Nat} {x y z : Str} {a b c : Expr} {r : WA} {px py pz pt : Pos} {kt k2 pt2} (hc : X.calm = true) (hN : X.N.Nodup) (hi : X.N[i]? = some x) (hj : X.N[j]? = some y) (hl : X.N[l]? = some z) (hij : i ≠ j) (hil : i ≠ l) (hjl : j ≠ l)
    (hx : X.env.scope.names.lookup x = some .local) (hy : X.env.scope.names.lookup y = some .local) (hz : X.env.scope.names.lookup z = some .local) (ha : DA X [a, b, c] r)
    (hw : swappedStores [.Tuple [.Name x px, .Name y py, .Name z pz] kt pt] (.Tuple [a, b, c] k2 pt2) X.env = pure (some [x, y, z]))
    (hs : swapsWithSole [.Tuple [.Name x px, .Name y py, .Name z pz] kt pt] (.Tuple [a, b, c] k2 pt2) pos.line X.env = pure false := by rfl) :
    DS X (.Assign [.Tuple [.Name x px, .Name y py, .Name z pz] kt pt] (.Tuple [a, b, c] k2 pt2) pos) (wPar3 i j l r) :=
  weakS (ps_par3 hc hN hi hj hl hij hil hjl hx hy hz ha hw hs) fun E σ H ⟨U, δ, μ, F, c, e, w, k⟩ => ⟨U, δ, μ, _, c, e, w, fun vs ds H1 μ1 s1 c1 r1 ⟨d1, d2, d3, ed, p⟩ => by
    subst ed
    cases r1 with
    | cons q1 q2 =>
      obtain ⟨v, w, rfl, q2, q3⟩ := rep2 q2
      exact ⟨_, _, _, rfl, k.nx _ _ H1 μ1 s1 c1 ((((e.step s1).set q1 i).set q2 j).set q3 l) p⟩⟩

/-! ### targets that write objects -/
abbrev WG2 := D → De → Mu → (De → Mu → Prop) → Prop
abbrev WGs2 := List D → De → Mu → (De → Mu → Prop) → Prop
def liftG2 (K : PySem.W.Frag) (g : WG2) : TG := fun v σ H Q => ∃ U d δ μ P, ConcM K H μ U ∧ ConcE K H μ U σ δ ∧ RepV K H μ U v d ∧ g d δ μ P ∧ ∀ σ' δ' H' μ', Step H μ H' μ' → ConcM K H' μ' U → ConcE K H' μ' U σ' δ' → P δ' μ' → Q σ' H'
def liftGs2 (K : PySem.W.Frag) (g : WGs2) : TGs := fun vs σ H Q => ∃ U ds δ μ P, ConcM K H μ U ∧ ConcE K H μ U σ δ ∧ RepL K H μ U vs ds ∧ g ds δ μ P ∧ ∀ σ' δ' H' μ', Step H μ H' μ' → ConcM K H' μ' U → ConcE K H' μ' U σ' δ' → P δ' μ' → Q σ' H'
structure DG2 (X : Cx) (t : Expr) (g : WG2) : Prop where
  run : PG X t (liftG2 X.K g)
structure DGs2 (X : Cx) (ts : List Expr) (g : WGs2) : Prop where
  run : PGs X ts (liftGs2 X.K g)
def gs2Nil : WGs2 := fun ds δ μ P => ds = [] ∧ P δ μ
def gs2Cons (g : WG2) (r : WGs2) : WGs2 := fun ds δ μ P => ∃ x xs, ds = x :: xs ∧ g x δ μ fun δ' μ' => r xs δ' μ' P
def gT2 (n : Nat) (g : WGs2) : WG2 := fun d δ μ P => ∃ ds, seqT d = some ds ∧ ds.length = n ∧ g ds δ μ P
def gSub2 (wo wi : WE) : WG2 := fun z δ μ P => wo δ μ fun d μ1 => wi δ μ1 fun i μ2 => ∃ a xs k j, d = .own a ∧ i = .int k ∧ μ2 a = some (.lst xs) ∧ ixN xs.length k = some j ∧ P δ (mset μ2 a (.lst (xs.set j z)))
theorem dgs2_nil : DGs2 X [] gs2Nil := ⟨⟨fun pins s σ H vs us Q I r ⟨U, ds, δ, μ, P, c, e, rv, ⟨hd, p⟩, k⟩ => by
  subst hd
  cases rv
  exact pgs_nil.run pins s σ H [] us Q I r ⟨rfl, k σ δ H μ (Step.refl _ _) c e p⟩⟩⟩
theorem dgs2_cons {t : Expr} {ts : List Expr} {g : WG2} {r : WGs2} (h1 : DG2 X t g) (h2 : DGs2 X ts r) (hs : (assignEach (t :: ts) X.env).map (·.2) = assign t X.env :: (assignEach ts X.env).map (·.2) := by rfl) :
    DGs2 X (t :: ts) (gs2Cons g r) := ⟨⟨fun pins s σ H vs us Q I rr ⟨U, ds, δ, μ, P, c, e, rv, ⟨x, xs, hd, p⟩, k⟩ => by
  subst hd
  cases rv with
  | cons r1 r2 =>
    exact (pgs_cons h1.run h2.run hs).run pins s σ H _ us Q I rr ⟨_, _, rfl, U, x, δ, μ, _, c, e, r1, p, fun σ1 δ1 H1 μ1 s1 c1 e1 p1 => ⟨U, xs, δ1, μ1, P, c1, e1, r2.step s1, p1, fun σ2 δ2 H2 μ2 s2 c2 e2 p2 => k σ2 δ2 H2 μ2 (s1.trans s2) c2 e2 p2⟩⟩⟩⟩
theorem dg2_tup {ts : List Expr} {k : Nat} {g : WGs2} {n : Nat} (hc : X.calm = true) (h : DGs2 X ts g) (hn : (assignEach ts X.env).length = n := by rfl) (hst : (assignEach ts X.env).findIdx? (·.1) = none := by rfl) : DG2 X (.Tuple ts k pos) (gT2 n g) :=
  ⟨⟨fun pins s σ H v u Q I r ⟨U, d, δ, μ, P, c, e, rv, ⟨ds, hd, hl, p⟩, k⟩ => by
    obtain ⟨a, vs, ev, ha, _, _, rl⟩ := seqT_rd rv hd
    exact (pg_tup hc h.run hn hst).run pins s σ H v u Q I r ⟨a, vs, ev, .inl ha, by rw [rl.length]; exact hl, U, ds, δ, μ, P, c, e, rl, p, k⟩⟩⟩
theorem dg2_sub {o i : Expr} {wo wi : WE} (ho : DE X o wo) (hi : DE X i wi) (ha : ∀ v, assign (.Subscript o i pos') X.env v = (do
      let ov ← holding [v] (eval o X.env)
      let iv ← holding [v, ov] (eval i X.env)
      standAt pos'
      holding [v, ov, iv] (setItem ov iv v)
      release [v, ov, iv] []) := by intro _; rfl) : DG2 X (.Subscript o i pos') (gSub2 wo wi) :=
  ⟨⟨fun pins s σ H v u Q I r ⟨U, z, δ, μ, P, c, e, rv, p, k⟩ => by
    refine (pg_sub ho hi set_list ha).run pins s σ H v u Q I r ⟨U, δ, μ, _, c, e, p, fun x d H2 μ2 s2 c2 r2 p2 => ⟨U, δ, μ2, _, c2, e.step s2, p2, fun y i' H3 μ3 s3 c3 r3 ⟨a, xs, kk, j, ed, ei, hm, hj, p3⟩ => ?_⟩⟩
    subst ed ei
    cases r2
    cases r3
    obtain ⟨ws, h1, rl⟩ := own_list c3 hm
    refine ⟨a, ws, kk, j, rfl, rfl, h1, by rw [rl.length]; exact hj, ?_⟩
    have st : Step H3 μ3 (upd H3 a (.lst (ws.set j v))) (mset μ3 a (.lst (xs.set j z))) := Step.write hm
    exact k σ δ _ _ ((s2.trans s3).trans st) (c3.write (u := .lst (xs.set j z)) hm ⟨_, upd_same, (RepL.set ((rv.step s2).step s3) j rl).step st⟩) (((e.step s2).step s3).step st) p3⟩⟩
def wAsgG2 (w : WE) (g : WG2) : WS := fun F δ μ => w δ μ fun d μ1 => g d δ μ1 F.nx
theorem ds_asg2 {tg e : Expr} {w : WE} {g : WG2} (he : DE X e w) (hg : DG2 X tg g) (hs : swapsWithSole [tg] e pos.line X.env = pure false := by rfl) (hw : swappedStores [tg] e X.env = pure none := by rfl) (h1 : (assignEach [tg] X.env).map (·.2) = [assign tg X.env] := by rfl) :
    DS X (.Assign [tg] e pos) (wAsgG2 w g) := weakS (ps_asg he hg.run hs hw h1) fun E σ H ⟨U, δ, μ, F, c, e, w, k⟩ =>
  ⟨U, δ, μ, _, c, e, w, fun v d H1 μ1 s1 c1 r1 p => ⟨U, d, δ, μ1, _, c1, e.step s1, r1, p, fun σ' δ' H' μ' s' c' e' p' => k.nx σ' δ' H' μ' (s1.trans s') c' e' p'⟩⟩
/-! ### names of the module -/
theorem de_gstr {x z : Str} (h : ∃ t, X.mg x = some (.str z t)) (hg : Gl X x := by rfl) (hdb : (x == ("__debug__" : Str)) = false := by decide) : DE X (.Name x pos) (wC (.str z)) :=
  let ⟨t, h⟩ := h; de_glob (v := .str z) hg h ⟨t, rfl⟩ (fun _ _ _ => .str z) hdb
theorem de_gint {x : Str} {z : Int} (h : ∃ t, X.mg x = some (.int z t)) (hg : Gl X x := by rfl) (hdb : (x == ("__debug__" : Str)) = false := by decide) : DE X (.Name x pos) (wC (.int z)) :=
  let ⟨t, h⟩ := h; de_glob (v := .int z) hg h ⟨t, rfl⟩ (fun _ _ _ => .int z) hdb
/-- k in T, T a tuple of texts that stands in the written part -/
def gInK (ws : List Str) : D → Mu → (D → Mu → Prop) → Prop := fun d μ P => ∃ y, d = .str y ∧ P (.bl (ws.any fun w => w == y)) μ
def wInK (ws : List Str) (w : WE) : WT := fun δ μ P => w δ μ fun d μ1 => ∃ y, d = .str y ∧ P (ws.any fun w => w == y) μ1
theorem dt_inK {x : Str} {e : Expr} {w : WE} {ws : List Str} {T : Addr} (hg : Gl X x) (hm : X.mg x = some (.ref T)) (hT : ∀ H, SqT X.K H T (ws.map V.str)) (he : DE X e w) (h1 : behindInMarks .In (.Name x pos') = false) (hdb : (x == ("__debug__" : Str)) = false := by decide) : DT X (.Compare e [.In] [.Name x pos'] pos) (wInK ws w) :=
  weakT (pt_cmpR op_in_seq he (pe_glob hg hm (v := .ref T) rfl hdb) h1) fun σ H Q ⟨U, δ, μ, P, c, ce, w, k⟩ => ⟨U, δ, μ, _, c, ce, w, fun v d H1 μ1 s1 c1 r1 ⟨y, ey, p⟩ => by
    subst ey
    cases r1
    refine ⟨T, ws.map V.str, rfl, .inr (hT H1), rfl, by rw [List.all_map]; exact List.all_eq_true.mpr fun _ _ => rfl, _, rfl, ?_⟩
    refine k _ _ H1 μ1 s1 c1 ?_ p
    show inV (.str y) (ws.map V.str) = _
    unfold inV
    rw [List.any_map]
    rfl⟩
end
end L3
/-! L3Vc -/
/-! L3Vc: answering the readings. -/
namespace L3
open PySem PySem.Spec PyProof.Rows L2
/-- one turn of a comprehension that changes nothing: its item's value, or none where the test says no -/
def LcStep (g : WG) (tt : WT) (te : WE) (vs : List Nat) (δ : De) (μ : Mu) (x : D) (r : Option D) : Prop := ∀ (Ry : D → Mu → Prop) (Rn : Mu → Prop), (∀ y, r = some y → Ry y μ) → (r = none → Rn μ) →
  g x (wipeD δ vs) fun δ' => tt δ' μ fun b μ1 => if b = true then te δ' μ1 Ry else Rn μ1
theorem lcD_pure {g : WG} {tt : WT} {te : WE} {vs : List Nat} {chk : Mu → Prop} {P : D → Mu → Prop} {δ : De} {μ : Mu} (f : D → Option D) (hc : chk μ) : ∀ {ds acc : List D}, (∀ x ∈ ds, LcStep g tt te vs δ μ x (f x)) → P (.lst (acc ++ ds.filterMap f)) μ → lcD g tt te vs chk P δ ds acc μ
  | [], acc, _, p => ⟨hc, by simpa using p⟩
  | x :: xs, acc, h, p => by
    refine ⟨hc, h x List.mem_cons_self _ _ (fun y hy => ?_) fun hn => ?_⟩
    · refine lcD_pure f hc (fun z hz => h z (List.mem_cons_of_mem _ hz)) ?_
      rw [List.filterMap_cons_some hy] at p
      simpa using p
    · refine lcD_pure f hc (fun z hz => h z (List.mem_cons_of_mem _ hz)) ?_
      rw [List.filterMap_cons_none hn] at p
      exact p
/-- over items given by e -/
theorem lcD_of {α : Type} {g : WG} {tt : WT} {te : WE} {vs : List Nat} {chk : Mu → Prop} {P : D → Mu → Prop} {δ : De} {μ : Mu} (e : α → D) (f : α → D) (hc : chk μ) : ∀ {xs : List α} {acc : List D}, (∀ x ∈ xs, LcStep g tt te vs δ μ (e x) (some (f x))) → P (.lst (acc ++ xs.map f)) μ → lcD g tt te vs chk P δ (xs.map e) acc μ
  | [], acc, _, p => ⟨hc, by simpa using p⟩
  | x :: xs, acc, h, p => by
    refine ⟨hc, h x List.mem_cons_self _ _ (fun y hy => ?_) fun hn => by cases hn⟩
    cases hy
    refine lcD_of e f hc (fun z hz => h z (List.mem_cons_of_mem _ hz)) ?_
    simpa using p
theorem lcD_if {α : Type} {g : WG} {tt : WT} {te : WE} {vs : List Nat} {chk : Mu → Prop} {P : D → Mu → Prop} {δ : De} {μ : Mu} (e : α → D) (f : α → D) (q : α → Bool) (hc : chk μ) : ∀ {xs : List α} {acc : List D}, (∀ x ∈ xs, LcStep g tt te vs δ μ (e x) (if q x then some (f x) else none)) → P (.lst (acc ++ (xs.filter q).map f)) μ → lcD g tt te vs chk P δ (xs.map e) acc μ
  | [], acc, _, p => ⟨hc, by simpa using p⟩
  | x :: xs, acc, h, p => by
    refine ⟨hc, h x List.mem_cons_self _ _ (fun y hy => ?_) fun hn => ?_⟩
    · cases hq : q x with
      | false => rw [hq] at hy; simp at hy
      | true =>
        rw [hq] at hy
        simp at hy
        subst hy
        refine lcD_if e f q hc (fun z hz => h z (List.mem_cons_of_mem _ hz)) ?_
        rw [List.filter_cons_of_pos hq] at p
        simpa using p
    · cases hq : q x with
      | true => rw [hq] at hn; simp at hn
      | false =>
        refine lcD_if e f q hc (fun z hz => h z (List.mem_cons_of_mem _ hz)) ?_
        rw [List.filter_cons_of_neg (by rw [hq]; exact Bool.false_ne_true)] at p
        exact p
theorem zipD {xs ys : List Int} : List.zipWith pairD (xs.map D.int) (ys.map D.int) = (xs.zip ys).map fun p => D.tup [.int p.1, .int p.2] := by
  rw [List.zip_eq_zipWith, List.map_zipWith, List.zipWith_map]; rfl
theorem rangeD_0 (n : Nat) : rangeD 0 n = (List.range n).map fun i => D.int (i : Nat) := by
  unfold rangeD
  refine List.map_congr_left fun i _ => ?_
  rw [Int.zero_add]
section
variable {μ : Mu} {ds es : List D} {a : Addr} {i : Int} {x : Str} {g : List (Key × D)} {gt : List (List Key × D)} {C : Addr} {fs : List (Str × D)} {b : Bool} {o : MO}
theorem walkD_lst : walkD μ (.lst ds) = some ds := rfl
theorem walkD_tup : walkD μ (.tup ds) = some ds := rfl
theorem walkD_own (h : μ a = some (.lst ds)) : walkD μ (.own a) = some ds := by simp only [walkD, h]
theorem walkL_lst : walkL μ (.lst ds) = some ds := rfl
theorem walkL_own (h : μ a = some (.lst ds)) : walkL μ (.own a) = some ds := by simp only [walkL, h]
theorem seqL_lst : seqL μ (.lst ds) = some ds := rfl
theorem seqL_own (h : μ a = some (.lst ds)) : seqL μ (.own a) = some ds := by simp only [seqL, h]
theorem seqT_tup : seqT (.tup ds) = some ds := rfl
theorem chkD_lst : chkD (.lst ds) es = fun _ => True := rfl
theorem chkD_tup : chkD (.tup ds) es = fun _ => True := rfl
theorem chkD_own : chkD (.own a) es = fun μ' => μ' a = some (.lst es) := rfl
theorem lenD_lst : lenD μ (.lst ds) = some ds.length := rfl
theorem lenD_tup : lenD μ (.tup ds) = some ds.length := rfl
theorem lenD_dK : lenD μ (.dK g) = some g.length := rfl
theorem lenD_str (h : x.length ≤ lim) : lenD μ (.str x) = some x.length := by simp only [lenD, if_pos h]
theorem lenD_own (h : μ a = some (.lst ds)) : lenD μ (.own a) = some ds.length := by simp only [lenD, h]
theorem itemD_lst : itemD μ (.lst ds) i = atI ds i := rfl
theorem itemD_tup : itemD μ (.tup ds) i = atI ds i := rfl
theorem itemD_own (h : μ a = some (.lst ds)) : itemD μ (.own a) i = atI ds i := by simp only [itemD, h]
theorem itemD_str (h : x.length ≤ lim) : itemD μ (.str x) i = (atI x.cps.toList i).map fun c => D.str ⟨#[c]⟩ := by simp only [itemD, if_pos h]
theorem sliceD_lst {lo hi : Option Int} : sliceD μ lo hi (.lst ds) = some (.lst (cutD ds lo hi)) := rfl
theorem sliceD_fz {lo hi : Option Int} : sliceD μ lo hi (.fz ds) = some (.lst (cutD ds lo hi)) := rfl
theorem sliceD_own {lo hi : Option Int} (h : μ a = some (.lst ds)) : sliceD μ lo hi (.own a) = some (.lst (cutD ds lo hi)) := by simp only [sliceD, h]
theorem tyD_lst {T : String} : tyD T μ (.lst ds) = (T = "list") := rfl
theorem tyD_str {T : String} : tyD T μ (.str x) = (T = "str") := rfl
theorem tyD_own {T : String} (h : μ a = some (.lst ds)) : tyD T μ (.own a) = (T = "list") := by simp only [tyD, h]
theorem insD_ins : insD μ (.ins C fs) = some (C, fs) := rfl
theorem insD_own (h : μ a = some (.ins C fs)) : insD μ (.own a) = some (C, fs) := by simp only [insD, h]
theorem dicT_dT : dicT μ (.dT gt) = some gt := rfl
theorem dicT_own (h : μ a = some (.dT gt)) : dicT μ (.own a) = some gt := by simp only [dicT, h]
theorem truD_non : TruD μ .non b ↔ false = b := ⟨fun h => by cases h <;> first | rfl | (rename_i h; cases h), fun h => h ▸ .non⟩
theorem truD_lst : TruD μ (.lst ds) b ↔ (!ds.isEmpty) = b := ⟨fun h => (by cases h with
  | lst h => cases h; rfl
  | tup h => cases h), fun h => h ▸ .lst rfl⟩
theorem truD_own (h : μ a = some (.lst ds)) : TruD μ (.own a) b ↔ (!ds.isEmpty) = b := ⟨fun t => (by cases t with
  | lst q => rw [seqL_own h] at q; cases q; rfl
  | tup q => cases q), fun t => t ▸ .lst (seqL_own h)⟩
theorem truD_tup : TruD μ (.tup ds) b ↔ (!ds.isEmpty) = b := ⟨fun h => (by cases h with
  | lst h => cases h
  | tup h => cases h; rfl), fun h => h ▸ .tup rfl⟩
theorem truD_int : TruD μ (.int i) b ↔ (i != 0) = b := ⟨fun h => by cases h <;> first | rfl | (rename_i h; cases h), fun h => h ▸ .int i⟩
theorem truD_bl {c : Bool} : TruD μ (.bl c) b ↔ c = b := ⟨fun h => by cases h <;> first | rfl | (rename_i h; cases h), fun h => h ▸ .bl c⟩
theorem map_int_inj {xs ys : List Int} : xs.map D.int = ys.map D.int ↔ xs = ys := ⟨fun h => List.map_inj_right (fun _ _ h => D.int.inj h) |>.mp h, fun h => h ▸ rfl⟩
theorem map_str_inj {xs ys : List Str} : xs.map D.str = ys.map D.str ↔ xs = ys := ⟨fun h => List.map_inj_right (fun _ _ h => D.str.inj h) |>.mp h, fun h => h ▸ rfl⟩
theorem map_bl_inj {xs ys : List Bool} : xs.map D.bl = ys.map D.bl ↔ xs = ys := ⟨fun h => List.map_inj_right (fun _ _ h => D.bl.inj h) |>.mp h, fun h => h ▸ rfl⟩
end
theorem ix5_0 : ixN 5 0 = some 0 := rfl
theorem ix5_1 : ixN 5 1 = some 1 := rfl
theorem ix5_2 : ixN 5 2 = some 2 := rfl
theorem ix5_3 : ixN 5 3 = some 3 := rfl
theorem ix5_4 : ixN 5 4 = some 4 := rfl
section
variable {α : Type} {a b c d e : α}
theorem at5_0 : atI [a, b, c, d, e] 0 = some a := rfl
theorem at5_1 : atI [a, b, c, d, e] 1 = some b := rfl
theorem at5_2 : atI [a, b, c, d, e] 2 = some c := rfl
theorem at5_3 : atI [a, b, c, d, e] 3 = some d := rfl
theorem at5_4 : atI [a, b, c, d, e] 4 = some e := rfl
theorem at3_0 : atI [a, b, c] 0 = some a := rfl
theorem at3_1 : atI [a, b, c] 1 = some b := rfl
theorem at3_2 : atI [a, b, c] 2 = some c := rfl
theorem at2_0 : atI [a, b] 0 = some a := rfl
theorem at2_1 : atI [a, b] 1 = some b := rfl
end
local macro_rules | `(tactic| simp! only [$ts,*]) => `(tactic| simp only [wRet, wRetN, wDrop, wIfS, wAsg, wAsgG, wAsgG2, wPar, wPar3, wNext, wPass, wVar, wC, wOp, wUn, wNil, wCons, wTup, wLst, wLstM, wCB, wTest, wTru, wAnd, wOr, wNot, wAndV, wOrV, wNotV, wIf, wFrz, wYes, wLc, wLcM, wFor, wZipI, wSeqI, wEnumI, wRng1, wRng2, wStrI, gN, gT, gsNil, gsCons, gPlus, gSub, gMulX, gDivX, gMod, gPow, gI, gIC, gLt, gLe, gGt, gGe, gEq, gNe, eqS, gNeg, gIs, gIsNot, isNonD, gSum, gAll, gAny, gLen, gTuple, gList, gListM, gAbs, gInt1, gStrI, gMin2, gMax, gIx, wSl, wNoPart, wPart, wBM, gApp, wSetI, wCall, wFmt, wChain, gIn, wFld, wMeth, gIsi, wMake, wThaw, wSetF, gClear, gJoin, walkD_lst, walkD_tup, walkL_lst, seqL_lst, seqT_tup, chkD_lst, chkD_tup, chkD_own, lenD_lst, lenD_tup, lenD_dK, itemD_lst, itemD_tup, sliceD_lst, sliceD_fz, tyD_lst, tyD_str, insD_ins, dicT_dT, truD_non, truD_lst, truD_tup, truD_int, truD_bl, map_int_inj, map_str_inj, map_bl_inj, mset_same, mset_mset, wipeD, startD, List.set, List.length_cons, List.length_nil, List.map_cons, List.map_nil, List.replicate, List.append_eq, List.cons_append, List.nil_append, List.getElem?_cons_zero, List.getElem?_cons_succ, Nat.reduceAdd, Nat.reduceSub, List.getElem?_nil, Option.some.injEq, Prod.mk.injEq, MO.lst.injEq, MO.ins.injEq, ix5_0, ix5_1, ix5_2, ix5_3, ix5_4, at5_0, at5_1, at5_2, at5_3, at5_4, at3_0, at3_1, at3_2, at2_0, at2_1, D.int.injEq, D.tup.injEq, D.lst.injEq, D.str.injEq, D.bl.injEq, D.own.injEq, D.ty.injEq, List.cons.injEq, and_assoc, and_true, true_and, exists_eq_left', exists_eq_left, exists_and_left, exists_eq', if_true, reduceIte, Bool.false_eq_true, $ts,*])
theorem seq_step {t u : WS} {F : DEnds} {δ : De} {μ : Mu} (h : t { F with nx := u F } δ μ) : wSeq t u F δ μ := h
theorem ixN_nat {n k : Nat} (h : k < n) : ixN n (k : Int) = some k := by
  unfold ixN
  simp only [Int.natCast_nonneg, if_true, Int.toNat_natCast]
  first | (rw [if_pos (by omega)]) | (rw [if_pos ⟨by omega, by omega⟩]) | simp [h]
theorem atI_nat {α : Type} {xs : List α} {k : Nat} {x : α} (h : xs[k]? = some x) : atI xs (k : Int) = some x := by
  unfold atI
  rw [ixN_nat (List.getElem?_eq_some_iff.mp h).1]
  exact h
theorem atI_get {α : Type} {xs : List α} {i : Int} (h0 : 0 ≤ i) (h1 : i < xs.length) : ∃ h : i.toNat < xs.length, atI xs i = some xs[i.toNat] := by
  have h : i.toNat < xs.length := by omega
  refine ⟨h, ?_⟩
  have e : ((i.toNat : Nat) : Int) = i := by omega
  have := atI_nat (List.getElem?_eq_getElem h)
  rw [e] at this
  exact this
theorem atI_last {α : Type} {xs : List α} {x : α} : atI (xs ++ [x]) (-1) = some x := by
  unfold atI ixN
  rw [List.length_append, if_neg (by decide), if_pos (by simp; omega)]
  have e : ((-1 : Int) + ((xs.length + [x].length : Nat) : Int)).toNat = xs.length := by simp; omega
  rw [e]
  simp
theorem mulR {i j : Int} (h1 : -(2 ^ 62) < j) (h2 : j < 2 ^ 62) : CMulX i j := .inl (.inr ⟨by omega, by omega⟩)
theorem mulL {i j : Int} (h1 : -(2 ^ 62) < i) (h2 : i < 2 ^ 62) : CMulX i j := .inl (.inl ⟨by omega, by omega⟩)
theorem divS {i j : Int} (h0 : j ≠ 0) (h : j.natAbs < 2 ^ 30) : CDivX i j := ⟨h0, Nat.lt_of_lt_of_le (PySem.Flt.log2_lt_of (by decide) h) (by decide)⟩
theorem forD_inv {g : WG} {wb : WS} {chk : Mu → Prop} {F : DEnds} (I : Nat → De → Mu → Prop) : ∀ {ds : List D} {δ : De} {μ : Mu} (k : Nat), I k δ μ → (∀ i δ μ, I i δ μ → chk μ) →
    (∀ i x δ μ, ds[i]? = some x → I (k + i) δ μ → ∀ nx : De → Mu → Prop, (∀ δ' μ', I (k + i + 1) δ' μ' → nx δ' μ') → g x δ fun δ' => wb { F with nx := nx, ct := nx, bk := F.nx } δ' μ) → (∀ δ μ, I (k + ds.length) δ μ → F.nx δ μ) → forD g wb chk F ds δ μ
  | [], δ, μ, k, h, hc, _, he => ⟨hc k _ _ h, he _ _ (by simpa using h)⟩
  | x :: xs, δ, μ, k, h, hc, hs, he => ⟨hc k _ _ h, hs 0 x δ μ rfl h _ fun δ' μ' h' => forD_inv I (k + 1) h' hc (fun i y δ2 μ2 hy hi => by
      have := hs (i + 1) y δ2 μ2 (by simpa using hy) (by rw [show k + (i + 1) = k + 1 + i by omega]; exact hi)
      intro nx hn
      exact this nx (by rw [show k + (i + 1) + 1 = k + 1 + i + 1 by omega]; exact hn)) fun δ2 μ2 h2 => he δ2 μ2 (by rw [List.length_cons, show k + (xs.length + 1) = k + 1 + xs.length by omega]; exact h2)⟩
theorem lcD_inv {g : WG} {tt : WT} {te : WE} {vs : List Nat} {chk : Mu → Prop} {P : D → Mu → Prop} {δ : De} (I : Nat → List D → Mu → Prop) : ∀ {ds acc : List D} {μ : Mu} (k : Nat), I k acc μ → (∀ i acc μ, I i acc μ → chk μ) →
    (∀ i x acc μ, ds[i]? = some x → I (k + i) acc μ → ∀ (Ry : D → Mu → Prop) (Rn : Mu → Prop), (∀ y μ', I (k + i + 1) (acc ++ [y]) μ' → Ry y μ') → (∀ μ', I (k + i + 1) acc μ' → Rn μ') → g x (wipeD δ vs) fun δ' => tt δ' μ fun b μ1 => if b = true then te δ' μ1 Ry else Rn μ1) →
    (∀ acc μ, I (k + ds.length) acc μ → P (.lst acc) μ) → lcD g tt te vs chk P δ ds acc μ
  | [], acc, μ, k, h, hc, _, he => ⟨hc k _ _ h, he _ _ (by simpa using h)⟩
  | x :: xs, acc, μ, k, h, hc, hs, he => by
    have rest : ∀ acc' μ', I (k + 1) acc' μ' → lcD g tt te vs chk P δ xs acc' μ' := fun acc' μ' h' => lcD_inv I (k + 1) h' hc (fun i y a2 μ2 hy hi => by
      have := hs (i + 1) y a2 μ2 (by simpa using hy) (by rw [show k + (i + 1) = k + 1 + i by omega]; exact hi)
      intro Ry Rn h1 h2
      exact this Ry Rn (by rw [show k + (i + 1) + 1 = k + 1 + i + 1 by omega]; exact h1) (by rw [show k + (i + 1) + 1 = k + 1 + i + 1 by omega]; exact h2)) fun a2 μ2 h2 => he a2 μ2 (by rw [List.length_cons, show k + (xs.length + 1) = k + 1 + xs.length by omega]; exact h2)
    exact ⟨hc k _ _ h, hs 0 x acc μ rfl h _ _ (fun y μ' h' => rest _ μ' h') fun μ' h' => rest _ μ' h'⟩
theorem cut_hi {α : Type} (xs : List α) (k : Nat) : L3.cutD xs none (some (k : Int)) = xs.take k := by
  show (xs.drop 0).take (HT.sIx xs.length xs.length (some (k : Int)) - 0) = _
  rw [HT.sIx_nat, List.drop_zero, Nat.sub_zero]
  by_cases h : k ≤ xs.length
  · rw [Nat.min_eq_left h]
  · rw [Nat.min_eq_right (by omega), List.take_of_length_le (Nat.le_refl _), List.take_of_length_le (by omega)]
theorem cut_lo {α : Type} (xs : List α) (k : Nat) : L3.cutD xs (some (k : Int)) none = xs.drop k := by
  show (xs.drop (HT.sIx xs.length 0 (some (k : Int)))).take (xs.length - HT.sIx xs.length 0 (some (k : Int))) = _
  rw [HT.sIx_nat]
  by_cases h : k ≤ xs.length
  · rw [Nat.min_eq_left h, List.take_of_length_le (by rw [List.length_drop]; exact Nat.le_refl _)]
  · rw [Nat.min_eq_right (by omega), List.drop_of_length_le (Nat.le_refl _), List.drop_of_length_le (by omega), List.take_nil]
theorem cut_init {α : Type} (xs : List α) (x : α) : L3.cutD (xs ++ [x]) none (some (-1)) = xs := by
  show ((xs ++ [x]).drop 0).take (HT.sIx (xs ++ [x]).length (xs ++ [x]).length (some (-1)) - 0) = _
  have e : HT.sIx (xs ++ [x]).length (xs ++ [x]).length (some (-1)) = xs.length := by
    show (if (-1 : Int) < 0 then ((-1 : Int) + ((xs ++ [x]).length : Int)).toNat else min (-1 : Int).toNat (xs ++ [x]).length) = _
    rw [if_pos (by decide), List.length_append]
    simp
    omega
  rw [e, List.drop_zero, Nat.sub_zero]
  simp
def tI (l : List Int) : D := .tup (l.map .int)
end L3
open PySem PySem.Spec PyProof.Rows L2 L3
local macro_rules | `(tactic| simp! only [$ts,*]) => `(tactic| simp only [L3.wRet, L3.wRetN, L3.wDrop, L3.wIfS, L3.wAsg, L3.wAsgG, L3.wAsgG2, L3.wPar, L3.wPar3, L3.wNext, L3.wPass, L3.wVar, L3.wC, L3.wOp, L3.wUn, L3.wNil, L3.wCons, L3.wTup, L3.wLst, L3.wLstM, L3.wCB, L3.wTest, L3.wTru, L3.wAnd, L3.wOr, L3.wNot, L3.wAndV, L3.wOrV, L3.wNotV, L3.wIf, L3.wFrz, L3.wYes, L3.wLc, L3.wLcM, L3.wFor, L3.wZipI, L3.wSeqI, L3.wEnumI, L3.wRng1, L3.wRng2, L3.wStrI, L3.gN, L3.gT, L3.gsNil, L3.gsCons, L3.gPlus, L3.gSub, L3.gMulX, L3.gDivX, L3.gMod, L3.gPow, L3.gI, L3.gIC, L3.gLt, L3.gLe, L3.gGt, L3.gGe, L3.gEq, L3.gNe, L3.eqS, L3.gNeg, L3.gIs, L3.gIsNot, L3.isNonD, L3.gSum, L3.gAll, L3.gAny, L3.gLen, L3.gTuple, L3.gList, L3.gListM, L3.gAbs, L3.gInt1, L3.gStrI, L3.gMin2, L3.gMax, L3.gIx, L3.wSl, L3.wNoPart, L3.wPart, L3.wBM, L3.gApp, L3.wSetI, L3.wCall, L3.wFmt, L3.wChain, L3.gIn, L3.wFld, L3.wMeth, L3.gIsi, L3.wMake, L3.wThaw, L3.wSetF, L3.gClear, L3.gJoin, L3.walkD_lst, L3.walkD_tup, L3.walkL_lst, L3.seqL_lst, L3.seqT_tup, L3.chkD_lst, L3.chkD_tup, L3.chkD_own, L3.lenD_lst, L3.lenD_tup, L3.lenD_dK, L3.itemD_lst, L3.itemD_tup, L3.sliceD_lst, L3.sliceD_fz, L3.tyD_lst, L3.tyD_str, L3.insD_ins, L3.dicT_dT, L3.truD_non, L3.truD_lst, L3.truD_tup, L3.truD_int, L3.truD_bl, L3.map_int_inj, L3.map_str_inj, L3.map_bl_inj, L3.mset_same, L3.mset_mset, L3.wipeD, L3.startD, List.set, List.length_cons, List.length_nil, List.map_cons, List.map_nil, List.replicate, List.append_eq, List.cons_append, List.nil_append, List.getElem?_cons_zero, List.getElem?_cons_succ, Nat.reduceAdd, Nat.reduceSub, List.getElem?_nil, Option.some.injEq, Prod.mk.injEq, L3.MO.lst.injEq, L3.MO.ins.injEq, L3.ix5_0, L3.ix5_1, L3.ix5_2, L3.ix5_3, L3.ix5_4, L3.at5_0, L3.at5_1, L3.at5_2, L3.at5_3, L3.at5_4, L3.at3_0, L3.at3_1, L3.at3_2, L3.at2_0, L3.at2_1, L3.D.int.injEq, L3.D.tup.injEq, L3.D.lst.injEq, L3.D.str.injEq, L3.D.bl.injEq, L3.D.own.injEq, L3.D.ty.injEq, List.cons.injEq, and_assoc, and_true, true_and, exists_eq_left', exists_eq_left, exists_and_left, exists_eq', if_true, reduceIte, Bool.false_eq_true, $ts,*])
/-! K80Txt -/
namespace K80
open PySem PySem.Spec PyProof.Rows L2 L3
def top (i : Nat) : Stmt := PySem.Challenge.pw_leastfetched_k80_whole_parts.main.body.getD i (.Pass ⟨0, 0, 0, 0⟩)
def clsBody : Stmt → List Stmt
  | .ClassDef (body := b) .. => b
  | _ => []
def mth (i j : Nat) : Stmt := (clsBody (top i)).getD j (.Pass ⟨0, 0, 0, 0⟩)
def d__law_bag : He.DefD := ⟨(("_law_bag" : Str), none), ("_law_bag" : Str), ("_law_bag" : Str), defArgs (top 77), defBody (top 77), defScope (top 77), [], []⟩
def d__law_draw : He.DefD := ⟨(("_law_draw" : Str), none), ("_law_draw" : Str), ("_law_draw" : Str), defArgs (top 78), defBody (top 78), defScope (top 78), [], []⟩
def d__law_of : He.DefD := ⟨(("_law_of" : Str), none), ("_law_of" : Str), ("_law_of" : Str), defArgs (top 79), defBody (top 79), defScope (top 79), [], []⟩
def d__law_pick : He.DefD := ⟨(("_law_pick" : Str), none), ("_law_pick" : Str), ("_law_pick" : Str), defArgs (top 80), defBody (top 80), defScope (top 80), [], []⟩
def d__law_same : He.DefD := ⟨(("_law_same" : Str), none), ("_law_same" : Str), ("_law_same" : Str), defArgs (top 81), defBody (top 81), defScope (top 81), [], []⟩
def d__law_units : He.DefD := ⟨(("_law_units" : Str), none), ("_law_units" : Str), ("_law_units" : Str), defArgs (top 82), defBody (top 82), defScope (top 82), [], []⟩
def d__law_names : He.DefD := ⟨(("_law_names" : Str), none), ("_law_names" : Str), ("_law_names" : Str), defArgs (top 83), defBody (top 83), defScope (top 83), [], []⟩
def d__law_row : He.DefD := ⟨(("_law_row" : Str), none), ("_law_row" : Str), ("_law_row" : Str), defArgs (top 84), defBody (top 84), defScope (top 84), [], []⟩
def d__law_matrices : He.DefD := ⟨(("_law_matrices" : Str), none), ("_law_matrices" : Str), ("_law_matrices" : Str), defArgs (top 85), defBody (top 85), defScope (top 85), [], []⟩
def d__law_array : He.DefD := ⟨(("_law_array" : Str), none), ("_law_array" : Str), ("_law_array" : Str), defArgs (top 86), defBody (top 86), defScope (top 86), [], []⟩
def d__law_dressed : He.DefD := ⟨(("_law_dressed" : Str), none), ("_law_dressed" : Str), ("_law_dressed" : Str), defArgs (top 87), defBody (top 87), defScope (top 87), [], []⟩
def d__law_nest : He.DefD := ⟨(("_law_nest" : Str), none), ("_law_nest" : Str), ("_law_nest" : Str), defArgs (top 88), defBody (top 88), defScope (top 88), [], []⟩
def d_is_counter_name : He.DefD := ⟨(("is_counter_name" : Str), none), ("is_counter_name" : Str), ("is_counter_name" : Str), defArgs (top 58), defBody (top 58), defScope (top 58), [], []⟩
def d_counters_fault : He.DefD := ⟨(("counters_fault" : Str), none), ("counters_fault" : Str), ("counters_fault" : Str), defArgs (top 65), defBody (top 65), defScope (top 65), [], []⟩
def d_look_at_counters : He.DefD := ⟨(("look_at_counters" : Str), none), ("look_at_counters" : Str), ("look_at_counters" : Str), defArgs (top 66), defBody (top 66), defScope (top 66), [], []⟩
def d_is_array_name : He.DefD := ⟨(("is_array_name" : Str), none), ("is_array_name" : Str), ("is_array_name" : Str), defArgs (top 59), defBody (top 59), defScope (top 59), [], []⟩
def d_look_at_touches : He.DefD := ⟨(("look_at_touches" : Str), none), ("look_at_touches" : Str), ("look_at_touches" : Str), defArgs (top 67), defBody (top 67), defScope (top 67), [], []⟩
def d_integer_text : He.DefD := ⟨(("integer_text" : Str), none), ("integer_text" : Str), ("integer_text" : Str), defArgs (top 17), defBody (top 17), defScope (top 17), [], []⟩
def d_subscript_text : He.DefD := ⟨(("subscript_text" : Str), none), ("subscript_text" : Str), ("subscript_text" : Str), defArgs (top 60), defBody (top 60), defScope (top 60), [], []⟩
def d_touch_text : He.DefD := ⟨(("touch_text" : Str), none), ("touch_text" : Str), ("touch_text" : Str), defArgs (top 69), defBody (top 69), defScope (top 69), [], []⟩
def d_nest_text : He.DefD := ⟨(("nest_text" : Str), none), ("nest_text" : Str), ("nest_text" : Str), defArgs (top 70), defBody (top 70), defScope (top 70), [], []⟩
def d_Nest_init : He.DefD := ⟨(("Nest" : Str), some ("__init__" : Str)), ("__init__" : Str), ("Nest.__init__" : Str), defArgs (mth 75 0), defBody (mth 75 0), defScope (mth 75 0), [], []⟩
def d_Nest_eq : He.DefD := ⟨(("Nest" : Str), some ("__eq__" : Str)), ("__eq__" : Str), ("Nest.__eq__" : Str), defArgs (mth 75 2), defBody (mth 75 2), defScope (mth 75 2), [], []⟩
def d__law_copied : He.DefD := ⟨(("_law_copied" : Str), none), ("_law_copied" : Str), ("_law_copied" : Str), defArgs (top 89), defBody (top 89), defScope (top 89), [], []⟩
def d__law_points : He.DefD := ⟨(("_law_points" : Str), none), ("_law_points" : Str), ("_law_points" : Str), defArgs (top 90), defBody (top 90), defScope (top 90), [], []⟩
def d__law_basis : He.DefD := ⟨(("_law_basis" : Str), none), ("_law_basis" : Str), ("_law_basis" : Str), defArgs (top 91), defBody (top 91), defScope (top 91), [], []⟩
def d__law_undone : He.DefD := ⟨(("_law_undone" : Str), none), ("_law_undone" : Str), ("_law_undone" : Str), defArgs (top 92), defBody (top 92), defScope (top 92), [], []⟩
def d__law_place : He.DefD := ⟨(("_law_place" : Str), none), ("_law_place" : Str), ("_law_place" : Str), defArgs (top 93), defBody (top 93), defScope (top 93), [], []⟩
def d__law_home : He.DefD := ⟨(("_law_home" : Str), none), ("_law_home" : Str), ("_law_home" : Str), defArgs (top 94), defBody (top 94), defScope (top 94), [], []⟩
def d__law_parts : He.DefD := ⟨(("_law_parts" : Str), none), ("_law_parts" : Str), ("_law_parts" : Str), defArgs (top 95), defBody (top 95), defScope (top 95), [], []⟩
def d__law_other : He.DefD := ⟨(("_law_other" : Str), none), ("_law_other" : Str), ("_law_other" : Str), defArgs (top 96), defBody (top 96), defScope (top 96), [], []⟩
def d_row_text : He.DefD := ⟨(("row_text" : Str), none), ("row_text" : Str), ("row_text" : Str), defArgs (top 18), defBody (top 18), defScope (top 18), [], []⟩
def d_rows_text : He.DefD := ⟨(("rows_text" : Str), none), ("rows_text" : Str), ("rows_text" : Str), defArgs (top 19), defBody (top 19), defScope (top 19), [], []⟩
def d_Lot_init : He.DefD := ⟨(("Lot" : Str), some ("__init__" : Str)), ("__init__" : Str), ("Lot.__init__" : Str), defArgs (mth 46 0), defBody (mth 46 0), defScope (mth 46 0), [], []⟩
def d_Lot_points : He.DefD := ⟨(("Lot" : Str), some ("points" : Str)), ("points" : Str), ("Lot.points" : Str), defArgs (mth 46 9), defBody (mth 46 9), defScope (mth 46 9), [], []⟩
def d_look_alike : He.DefD := ⟨(("look_alike" : Str), none), ("look_alike" : Str), ("look_alike" : Str), defArgs (top 47), defBody (top 47), defScope (top 47), [], []⟩
def d_Lot_sub : He.DefD := ⟨(("Lot" : Str), some ("__sub__" : Str)), ("__sub__" : Str), ("Lot.__sub__" : Str), defArgs (mth 46 8), defBody (mth 46 8), defScope (mth 46 8), [], []⟩
def d_Lot_and : He.DefD := ⟨(("Lot" : Str), some ("__and__" : Str)), ("__and__" : Str), ("Lot.__and__" : Str), defArgs (mth 46 7), defBody (mth 46 7), defScope (mth 46 7), [], []⟩
def d_determinant : He.DefD := ⟨(("determinant" : Str), none), ("determinant" : Str), ("determinant" : Str), defArgs (top 14), defBody (top 14), defScope (top 14), [], []⟩
def d_is_basis : He.DefD := ⟨(("is_basis" : Str), none), ("is_basis" : Str), ("is_basis" : Str), defArgs (top 24), defBody (top 24), defScope (top 24), [], []⟩
def d_check_sides : He.DefD := ⟨(("check_sides" : Str), none), ("check_sides" : Str), ("check_sides" : Str), defArgs (top 29), defBody (top 29), defScope (top 29), [], []⟩
def d_unit_rows : He.DefD := ⟨(("unit_rows" : Str), none), ("unit_rows" : Str), ("unit_rows" : Str), defArgs (top 34), defBody (top 34), defScope (top 34), [], []⟩
def d_moved : He.DefD := ⟨(("moved" : Str), none), ("moved" : Str), ("moved" : Str), defArgs (top 32), defBody (top 32), defScope (top 32), [], []⟩
def d_bring_least : He.DefD := ⟨(("bring_least" : Str), none), ("bring_least" : Str), ("bring_least" : Str), defArgs (top 37), defBody (top 37), defScope (top 37), [], []⟩
def d_settle : He.DefD := ⟨(("settle" : Str), none), ("settle" : Str), ("settle" : Str), defArgs (top 36), defBody (top 36), defScope (top 36), [], []⟩
def d_dual_rows : He.DefD := ⟨(("dual_rows" : Str), none), ("dual_rows" : Str), ("dual_rows" : Str), defArgs (top 35), defBody (top 35), defScope (top 35), [], []⟩
def d_Block_init : He.DefD := ⟨(("Block" : Str), some ("__init__" : Str)), ("__init__" : Str), ("Block.__init__" : Str), defArgs (mth 49 0), defBody (mth 49 0), defScope (mth 49 0), [], []⟩
def d_Block_sides : He.DefD := ⟨(("Block" : Str), some ("sides" : Str)), ("sides" : Str), ("Block.sides" : Str), defArgs (mth 49 2), defBody (mth 49 2), defScope (mth 49 2), [], []⟩
def d_dot : He.DefD := ⟨(("dot" : Str), none), ("dot" : Str), ("dot" : Str), defArgs (top 31), defBody (top 31), defScope (top 31), [], []⟩
def d_Block_place : He.DefD := ⟨(("Block" : Str), some ("place" : Str)), ("place" : Str), ("Block.place" : Str), defArgs (mth 49 3), defBody (mth 49 3), defScope (mth 49 3), [], []⟩
def d_Block_home : He.DefD := ⟨(("Block" : Str), some ("home" : Str)), ("home" : Str), ("Block.home" : Str), defArgs (mth 49 4), defBody (mth 49 4), defScope (mth 49 4), [], []⟩
def d_parts : He.DefD := ⟨(("parts" : Str), none), ("parts" : Str), ("parts" : Str), defArgs (top 52), defBody (top 52), defScope (top 52), [], []⟩
def d__law_places_told : He.DefD := ⟨(("_law_places_told" : Str), none), ("_law_places_told" : Str), ("_law_places_told" : Str), defArgs (top 98), defBody (top 98), defScope (top 98), [], []⟩
def d__law_refused : He.DefD := ⟨(("_law_refused" : Str), none), ("_law_refused" : Str), ("_law_refused" : Str), defArgs (top 97), defBody (top 97), defScope (top 97), [], []⟩
def d_law : He.DefD := ⟨(("law" : Str), none), ("law" : Str), ("law" : Str), defArgs (top 99), defBody (top 99), defScope (top 99), [], []⟩
def facts : List He.Fa := [.free ("list" : Str), .free ("int" : Str), .free ("len" : Str), .free ("abs" : Str), .glo ("_law_draw" : Str), .free ("min" : Str), .free ("range" : Str), .free ("str" : Str), .free ("isinstance" : Str), .free ("bool" : Str), .free ("tuple" : Str), .free ("zip" : Str), .glo ("_law_same" : Str), .free ("all" : Str), .free ("dict" : Str), .glo ("_law_of" : Str), .glo ("_law_row" : Str), .glo ("_law_array" : Str), .glo ("_law_dressed" : Str), .glo ("_law_names" : Str), .str ("SMALL" : Str) ("abcdefghijklmnopqrstuvwxyz" : Str), .str ("DIGITS" : Str) ("0123456789" : Str), .glo ("KEPT_WORDS" : Str), .glo ("is_counter_name" : Str), .glo ("counters_fault" : Str), .str ("CAPITALS" : Str) ("ABCDEFGHIJKLMNOPQRSTUVWXYZ" : Str), .free ("enumerate" : Str), .glo ("is_array_name" : Str), .free ("any" : Str), .int ("LIMIT" : Str) (1000000000000000000000000000000000000000000000000000000000000), .glo ("integer_text" : Str), .glo ("subscript_text" : Str), .glo ("touch_text" : Str), .glo ("nest_text" : Str), .cls ("Nest" : Str), .noat ("Nest" : Str) ("text" : Str), .noat ("Nest" : Str) ("wide" : Str), .noat ("Nest" : Str) ("deep" : Str), .noat ("Nest" : Str) ("_touches" : Str), .noat ("Nest" : Str) ("_counters" : Str), .glo ("look_at_touches" : Str), .glo ("look_at_counters" : Str), .glo ("Nest" : Str), .mkr ("Nest" : Str), .free ("sorted" : Str), .free ("set" : Str), .free ("max" : Str), .glo ("_law_units" : Str), .free ("sum" : Str), .glo ("_law_home" : Str), .glo ("_law_place" : Str), .glo ("row_text" : Str), .glo ("rows_text" : Str), .cls ("Lot" : Str), .noat ("Lot" : Str) ("_points" : Str), .noat ("Lot" : Str) ("text" : Str), .noat ("Lot" : Str) ("_known" : Str), .noat ("Lot" : Str) ("nest" : Str), .meth ("Nest" : Str) ("__eq__" : Str), .glo ("Lot" : Str), .mkr ("Lot" : Str), .glo ("look_alike" : Str), .glo ("determinant" : Str), .glo ("moved" : Str), .glo ("bring_least" : Str), .glo ("settle" : Str), .glo ("unit_rows" : Str), .glo ("dual_rows" : Str), .cls ("Block" : Str), .noat ("Block" : Str) ("_duals" : Str), .noat ("Block" : Str) ("_sides" : Str), .noat ("Block" : Str) ("_basis" : Str), .noat ("Block" : Str) ("size" : Str), .noat ("Block" : Str) ("nest" : Str), .glo ("check_sides" : Str), .glo ("is_basis" : Str), .glo ("dot" : Str), .meth ("Block" : Str) ("place" : Str), .meth ("Lot" : Str) ("points" : Str), .meth ("Block" : Str) ("sides" : Str), .meth ("Block" : Str) ("home" : Str), .glo ("OtherNest" : Str), .free ("super" : Str), .glo ("law" : Str), .glo ("parts" : Str), .glo ("_law_refused" : Str), .glo ("_law_bag" : Str), .glo ("_law_nest" : Str), .glo ("_law_matrices" : Str), .glo ("_law_basis" : Str), .glo ("_law_undone" : Str), .glo ("_law_points" : Str), .glo ("_law_parts" : Str), .glo ("_law_pick" : Str), .glo ("_law_copied" : Str), .glo ("Block" : Str), .mkr ("Block" : Str), .glo ("_law_places_told" : Str), .meth ("Lot" : Str) ("__sub__" : Str), .meth ("Lot" : Str) ("__and__" : Str), .glo ("_law_other" : Str)]
def defs : List He.DefD := [d__law_bag, d__law_draw, d__law_of, d__law_pick, d__law_same, d__law_units, d__law_names, d__law_row, d__law_matrices, d__law_array, d__law_dressed, d__law_nest, d_is_counter_name, d_counters_fault, d_look_at_counters, d_is_array_name, d_look_at_touches, d_integer_text, d_subscript_text, d_touch_text, d_nest_text, d_Nest_init, d_Nest_eq, d__law_copied, d__law_points, d__law_basis, d__law_undone, d__law_place, d__law_home, d__law_parts, d__law_other, d_row_text, d_rows_text, d_Lot_init, d_Lot_points, d_look_alike, d_Lot_sub, d_Lot_and, d_determinant, d_is_basis, d_check_sides, d_unit_rows, d_moved, d_bring_least, d_settle, d_dual_rows, d_Block_init, d_Block_sides, d_dot, d_Block_place, d_Block_home, d_parts, d__law_places_told, d__law_refused, d_law]
abbrev aNest (K : PySem.W.Frag) : Addr := He.ga K "Nest"
abbrev aLot (K : PySem.W.Frag) : Addr := He.ga K "Lot"
abbrev aBlock (K : PySem.W.Frag) : Addr := He.ga K "Block"
def kept : List Str := ["for", "touch", "nest", "done"]
abbrev aOth (K : PySem.W.Frag) : Addr := He.ga K "OtherNest"
/-- .. of the exception -/
def exOth (K : PySem.W.Frag) : Bool := oexB K (aOth K) && (xfB K (aOth K) && (supC PySem.Challenge.pw_leastfetched_k80_whole_parts.main.file K (aOth K) "code" "OtherNest" && decide (PySem.W.exmOne K (.ref (aOth K)) (.ref (aOth K)) = some true)))
/-- further facts of the top, as one Bool -/
def exOk (K : PySem.W.Frag) : Bool := exOth K && (
  PySem.W.selfFirst K (aLot K) && (He.tupB K "KEPT_WORDS" (kept.map He.Dv.str) && (decide (PySem.W.findIn K (.ref (aNest K)) "__class__" = some (some (.builtin "object.__class__"))) &&
  (decide (PySem.W.specialIn K (.builtin "object.__class__") "__get__" = some (some (.builtin "getset_descriptor.__get__"))) && (decide (PySem.W.takesIn K (.builtin "object.__class__") = some true) &&
  (decide (PySem.W.mroIn K (aNest K) (.type "object") = some true) && decide (PySem.W.kitOne K (.ref (aNest K)) (.ref (aNest K)) = some true)))))))
section
variable {K : PySem.W.Frag} {mg : Str → Option Value}
theorem more_first (T : Tp facts defs exOk K mg) : PySem.W.selfFirst K (aLot K) = true := (He.ba (He.ba T.more).2).1
theorem more_kept (T : Tp facts defs exOk K mg) : ∀ H, SqT K H (He.ga K "KEPT_WORDS") (kept.map V.str) := fun H => by
  have h := He.tupB_ok (He.ba (He.ba (He.ba T.more).2).2).1 H
  rw [List.map_map] at h
  exact h
theorem more_ins (T : Tp facts defs exOk K mg) : C8.InsC K (aNest K) := by
  obtain ⟨h3, h⟩ := He.ba (He.ba (He.ba (He.ba T.more).2).2).2
  obtain ⟨h4, h⟩ := He.ba h
  obtain ⟨h5, h⟩ := He.ba h
  obtain ⟨h6, h7⟩ := He.ba h
  exact ⟨T.cls 34, of_decide_eq_true h3, of_decide_eq_true h4, of_decide_eq_true h5, of_decide_eq_true h6, of_decide_eq_true h7⟩
structure OthF (K : PySem.W.Frag) : Prop where
  oex : OexC K (aOth K)
  xf : XfC K (aOth K)
  sup : ∃ fI cc cda fd, SupI PySem.Challenge.pw_leastfetched_k80_whole_parts.main.file K (aOth K) fI cc cda fd "code" "OtherNest"
  one : PySem.W.exmOne K (.ref (aOth K)) (.ref (aOth K)) = some true
theorem OthF.sup_no (h : OthF K) : PySem.W.findIn K (.ref (aOth K)) "code" = some none := let ⟨_, _, _, _, S⟩ := h.sup; S.no
theorem more_oth (T : Tp facts defs exOk K mg) : OthF K := by
  obtain ⟨h1, h⟩ := He.ba (He.ba T.more).1
  obtain ⟨h2, h⟩ := He.ba h
  obtain ⟨h3, h4⟩ := He.ba h
  exact ⟨oexB_ok h1, xfB_ok h2, supC_ok h3, of_decide_eq_true h4⟩
end

end K80
set_option maxHeartbeats 0
/-! K80R -/
namespace K80
open PySem PySem.Spec PyProof.Rows L2 L3
def tf : List He.Defn := [(("law" : Str), none)]
abbrev R : PySem.W.OpenRow := PySem.W.OpenLaw.row PySem.Challenge.rw_leastfetched_k80_whole_parts
abbrev hk : PySem.W.Hook := hookY facts defs [] tf exOk
def ob (s : PySem.W.SharedT) : He.AlX := obsY facts defs [] tf exOk (HandSHeadRun.getT s)
theorem ob_eq (s : PySem.W.SharedT) : ob s = hk.obs s.abs := obsY_eq (HandSHeadRun.getT_eq s)
def loose1 : List Str := [("_wall" : Str), ("NestError" : Str), ("BadNest" : Str), ("InvalidText" : Str), ("InvalidNumber" : Str), ("InvalidTouch" : Str), ("InvalidPoint" : Str), ("InvalidPoints" : Str), ("InvalidRows" : Str), ("InvalidSides" : Str), ("OtherNest" : Str), ("determinant" : Str), ("LIMIT" : Str), ("integer_text" : Str), ("row_text" : Str), ("rows_text" : Str), ("is_amount" : Str), ("is_integer" : Str), ("told_rows" : Str), ("is_basis" : Str), ("Ratio" : Str), ("as_ratio" : Str), ("check_sides" : Str), ("dot" : Str), ("moved" : Str), ("combined" : Str), ("unit_rows" : Str), ("dual_rows" : Str), ("settle" : Str), ("bring_least" : Str), ("value_row" : Str), ("value_column" : Str), ("value_rows" : Str), ("rows_at" : Str), ("cells_of" : Str), ("Lot" : Str), ("look_alike" : Str), ("Block" : Str), ("step_up" : Str), ("parts" : Str)]
def loose2 : List Str := [("SMALL" : Str), ("CAPITALS" : Str), ("DIGITS" : Str), ("KEPT_WORDS" : Str), ("is_counter_name" : Str), ("is_array_name" : Str), ("subscript_text" : Str), ("told_term" : Str), ("told_terms" : Str), ("subscript_of" : Str), ("counters_fault" : Str), ("look_at_counters" : Str), ("look_at_touches" : Str), ("touch_text" : Str), ("nest_text" : Str), ("told_touch" : Str), ("NestReader" : Str), ("told_nest" : Str), ("Nest" : Str), ("_law_bag" : Str), ("_law_draw" : Str), ("_law_of" : Str), ("_law_pick" : Str), ("_law_same" : Str), ("_law_units" : Str), ("_law_names" : Str), ("_law_row" : Str), ("_law_matrices" : Str), ("_law_array" : Str), ("_law_dressed" : Str), ("_law_nest" : Str), ("_law_copied" : Str), ("_law_points" : Str), ("_law_basis" : Str), ("_law_undone" : Str), ("_law_place" : Str), ("_law_home" : Str), ("_law_parts" : Str), ("_law_other" : Str), ("_law_refused" : Str)]
def loose3 : List Str := [("_law_places_told" : Str)]
def loose : List Str := loose1 ++ loose2 ++ loose3
abbrev vw : Program := PySem.W.view R.prog [0, 99]
end K80
/-! XR1 -/
namespace K80
open PySem PySem.Spec PyProof.Rows L2 L3
theorem run1 (w : World) : (HandSHeadRun.wholeF (fun p => HandSHeadRun.stepQ (HandSHeadRun.denQ HandSHeadRun.tabQ) p w) HandSHeadRun.fenceQ 20000 R.prog).map (fun x => HandSHeadRun.looksF R.prog x.1.heap x.2.abs) = some (true) := by kernel_rfl
end K80
/-! XR2 -/
namespace K80
open PySem PySem.Spec PyProof.Rows L2 L3
theorem run2 (w : World) : (HandSHeadRun.wholeF (fun p => HandSHeadRun.stepQ (HandSHeadRun.denQ HandSHeadRun.tabQ) p w) HandSHeadRun.fenceQ 20000 R.prog).map (fun x => HandSHeadRun.seenQ vw loose (PySem.importedModules R.prog.main.body) (fun s => PySem.W.xlAt vw [] s && PySem.W.recOk R.toRowW.records s) x.2.abs) = some (PySem.W.openGood vw loose) := by kernel_rfl
end K80
/-! XR3 -/
namespace K80
open PySem PySem.Spec PyProof.Rows L2 L3
theorem run3 (w : World) : (HandSHeadRun.wholeF (fun p => HandSHeadRun.stepQ (HandSHeadRun.denQ HandSHeadRun.tabQ) p w) HandSHeadRun.fenceQ 20000 R.prog).map (fun x => ob x.2) = some (hk.val w) := by kernel_rfl
end K80
set_option maxHeartbeats 4000000
/-! K80Ma -/
/-! K80Ma: plain mathematics: tables of integers by steps, determinants, sizes, parts. -/
namespace K80
/-! ### sums, matrices -/
def sumN : Nat → (Nat → Int) → Int
  | 0, _ => 0
  | n + 1, f => sumN n f + f n
theorem sumN_congr : ∀ {n : Nat} {f g : Nat → Int}, (∀ i, i < n → f i = g i) → sumN n f = sumN n g
  | 0, _, _, _ => rfl
  | n + 1, f, g, h => by
    show sumN n f + f n = sumN n g + g n
    rw [sumN_congr fun i hi => h i (Nat.lt_succ_of_lt hi), h n (Nat.lt_succ_self n)]
theorem sumN_lin (c : Int) (f g : Nat → Int) : ∀ n : Nat, sumN n (fun i => f i + c * g i) = sumN n f + c * sumN n g
  | 0 => by simp [sumN]
  | n + 1 => by
    show sumN n (fun i => f i + c * g i) + (f n + c * g n) = sumN n f + f n + c * (sumN n g + g n)
    rw [sumN_lin c f g n]
    grind
theorem sumN_zero : ∀ n : Nat, sumN n (fun _ => 0) = 0
  | 0 => rfl
  | n + 1 => by
    show sumN n (fun _ => 0) + 0 = 0
    rw [sumN_zero n]; rfl
theorem sumN_one {n k : Nat} (f : Nat → Int) (h : k < n) (hz : ∀ i, i < n → i ≠ k → f i = 0) : sumN n f = f k := by
  induction n with
  | zero => omega
  | succ n ih =>
    show sumN n f + f n = f k
    by_cases e : k = n
    · subst e
      rw [sumN_congr (g := fun _ => 0) fun i hi => hz i (by omega) (by omega), sumN_zero]
      omega
    · rw [ih (by omega) fun i hi hk => hz i (by omega) hk, hz n (by omega) (by omega)]
      omega
theorem sumN_smul (c : Int) (f : Nat → Int) (n : Nat) : sumN n (fun i => c * f i) = c * sumN n f := by
  have := sumN_lin c (fun _ => 0) f n
  rw [sumN_zero] at this
  simpa using this
/-- entry -/
def en (L : List (List Int)) (k j : Nat) : Int := (L.getD k []).getD j 0
def dl (k j : Nat) : Int := if k = j then 1 else 0
abbrev Fn2 := Nat → Nat → Int
/-- what p divides in all sums, it divides in each weight -/
def Uni (n : Nat) (M : Fn2) : Prop := ∀ (φ : Nat → Int) (p : Int), (∀ k, k < n → p ∣ sumN n fun j => φ j * M k j) → ∀ j, j < n → p ∣ φ j
def Inj (n : Nat) (M : Fn2) : Prop := ∀ x : Nat → Int, (∀ j, j < n → (sumN n fun i => x i * M i j) = 0) → ∀ i, i < n → x i = 0
structure GoodF (n : Nat) (B : Fn2) (c : Nat) (M : Fn2) : Prop where
  eqn : ∀ k, k < n → ∀ j, j < n → M k j = sumN n fun i => M k (n + i) * B i j
  uni : Uni n M
  idc : ∀ k, k < n → ∀ j, j < c → M k j = dl k j
theorem dvd_lin {p a b c : Int} (h : p ∣ a) (k : p ∣ b) : p ∣ a + c * b := Int.dvd_add h (Int.dvd_mul_of_dvd_right k)
theorem Uni.add {n : Nat} {M M' : Fn2} {k1 : Nat} {t : Nat → Int} (h1 : k1 < n) (ht : t k1 = 0) (e : ∀ k, k < n → ∀ j, j < n → M' k j = M k j - t k * M k1 j) (u : Uni n M) : Uni n M' := fun φ p h => u φ p fun k hk => by
  have q1 : (sumN n fun j => φ j * M' k1 j) = sumN n fun j => φ j * M k1 j := sumN_congr fun j hj => by rw [e k1 h1 j hj, ht]; grind
  have q2 : (sumN n fun j => φ j * M k j) = (sumN n fun j => φ j * M' k j) + t k * sumN n fun j => φ j * M' k1 j := by
    rw [← sumN_lin]
    exact sumN_congr fun j hj => by rw [e k hk j hj, e k1 h1 j hj, ht]; grind
  rw [q2]
  exact dvd_lin (h k hk) (h k1 h1)
theorem Uni.perm {n : Nat} {M M' : Fn2} {s : Nat → Nat} (hs : ∀ k, k < n → s k < n) (hss : ∀ k, k < n → s (s k) = k) (e : ∀ k, k < n → ∀ j, j < n → M' k j = M (s k) j) (u : Uni n M) : Uni n M' := fun φ p h => u φ p fun k hk => by
  have := h (s k) (hs k hk)
  rw [sumN_congr (g := fun j => φ j * M k j) fun j hj => by rw [e (s k) (hs k hk) j hj, hss k hk]] at this
  exact this
theorem Uni.neg {n : Nat} {M M' : Fn2} {s : Nat → Int} (hs : ∀ k, k < n → s k * s k = 1) (e : ∀ k, k < n → ∀ j, j < n → M' k j = s k * M k j) (u : Uni n M) : Uni n M' := fun φ p h => u φ p fun k hk => by
  have := h k hk
  rw [sumN_congr (g := fun j => s k * (φ j * M k j)) fun j hj => by rw [e k hk j hj]; grind, sumN_smul] at this
  have h2 : p ∣ s k * (s k * sumN n fun j => φ j * M k j) := Int.dvd_mul_of_dvd_right this
  rw [← Int.mul_assoc, hs k hk, Int.one_mul] at h2
  exact h2
section
variable {n c : Nat} {B M M' : Fn2}
theorem GoodF.add {k1 : Nat} {t : Nat → Int} (h1 : k1 < n) (hc : c ≤ k1) (ht : t k1 = 0) (e : ∀ k, k < n → ∀ j, j < 2 * n → M' k j = M k j - t k * M k1 j) (g : GoodF n B c M) (hcn : c ≤ n) : GoodF n B c M' where
  eqn := fun k hk j hj => by
    rw [e k hk j (by omega), g.eqn k hk j hj, g.eqn k1 h1 j hj]
    have := sumN_lin (-t k) (fun i => M k (n + i) * B i j) (fun i => M k1 (n + i) * B i j) n
    rw [show ∀ a b : Int, a - t k * b = a + -t k * b from fun a b => by grind, ← this]
    exact sumN_congr fun i hi => by rw [e k hk (n + i) (by omega)]; grind
  uni := g.uni.add h1 ht fun k hk j hj => e k hk j (by omega)
  idc := fun k hk j hj => by
    rw [e k hk j (by omega), g.idc k hk j hj, g.idc k1 h1 j hj]
    have : dl k1 j = 0 := if_neg (by omega)
    rw [this]; omega
theorem GoodF.perm {s : Nat → Nat} (hs : ∀ k, k < n → s k < n) (hss : ∀ k, k < n → s (s k) = k) (hc : ∀ k, k < c → s k = k) (e : ∀ k, k < n → ∀ j, j < 2 * n → M' k j = M (s k) j) (g : GoodF n B c M) (hcn : c ≤ n) : GoodF n B c M' where
  eqn := fun k hk j hj => by
    rw [e k hk j (by omega), g.eqn (s k) (hs k hk) j hj]
    exact sumN_congr fun i hi => by rw [e k hk (n + i) (by omega)]
  uni := g.uni.perm hs hss fun k hk j hj => e k hk j (by omega)
  idc := fun k hk j hj => by
    rw [e k hk j (by omega), g.idc (s k) (hs k hk) j hj]
    by_cases h : k < c
    · rw [hc k h]
    · have h2 : ¬ s k < c := fun q => by
        have h3 := hc (s k) q
        rw [hss k hk] at h3
        omega
      unfold dl
      rw [if_neg (by omega), if_neg (by omega)]
theorem GoodF.neg {s : Nat → Int} (hs : ∀ k, k < n → s k * s k = 1) (hc : ∀ k, k < c → s k = 1) (e : ∀ k, k < n → ∀ j, j < 2 * n → M' k j = s k * M k j) (g : GoodF n B c M) (hcn : c ≤ n) : GoodF n B c M' where
  eqn := fun k hk j hj => by
    rw [e k hk j (by omega), g.eqn k hk j hj, ← sumN_smul]
    exact sumN_congr fun i hi => by rw [e k hk (n + i) (by omega)]; grind
  uni := g.uni.neg hs fun k hk j hj => e k hk j (by omega)
  idc := fun k hk j hj => by
    rw [e k hk j (by omega), g.idc k hk j hj]
    by_cases h : k < c
    · rw [hc k h, Int.one_mul]
    · unfold dl
      rw [if_neg (by omega)]; simp
theorem GoodF.next (g : GoodF n B c M) (h : ∀ k, k < n → M k c = dl k c) : GoodF n B (c + 1) M := ⟨g.eqn, g.uni, fun k hk j hj => by
  by_cases e : j = c
  · subst e; exact h k hk
  · exact g.idc k hk j (by omega)⟩
/-- what divides the column from c on is a unit -/
theorem GoodF.pivot {p : Int} (g : GoodF n B c M) (hc : c < n) (h : ∀ k, k < n → c ≤ k → p ∣ M k c) : p ∣ 1 := by
  have key := g.uni (fun j => if j = c then 1 else if j < c then - M j c else 0) p (fun k hk => ?_) c hc
  · simpa using key
  · by_cases hkc : k < c
    · have : (sumN n fun j => (if j = c then 1 else if j < c then - M j c else 0) * M k j) = 0 := by
        have e1 := sumN_lin 1 (fun j => if j = c then M k c else 0) (fun j => if j = k then - M k c else 0) n
        have e2 : (sumN n fun j => (if j = c then 1 else if j < c then - M j c else 0) * M k j) = sumN n fun j => (if j = c then M k c else 0) + 1 * (if j = k then - M k c else 0) := sumN_congr fun j hj => by
          by_cases h1 : j = c
          · subst h1
            rw [if_pos rfl, if_pos rfl, if_neg (by omega)]; omega
          · rw [if_neg h1, if_neg h1]
            by_cases h2 : j < c
            · rw [if_pos h2, g.idc k hk j h2]
              unfold dl
              by_cases h3 : k = j
              · subst h3; rw [if_pos rfl, if_pos rfl]; omega
              · rw [if_neg h3, if_neg (by omega)]; omega
            · rw [if_neg h2, if_neg (by omega)]; omega
        rw [e2, e1, sumN_one (k := c) _ hc (fun i _ hi => if_neg hi), sumN_one (k := k) _ hk (fun i _ hi => if_neg hi), if_pos rfl, if_pos rfl]
        omega
      rw [this]; exact Int.dvd_zero p
    · have : (sumN n fun j => (if j = c then 1 else if j < c then - M j c else 0) * M k j) = M k c := by
        rw [sumN_one (k := c) _ hc (fun i hi hic => ?_)]
        · rw [if_pos rfl]; omega
        · rw [if_neg hic]
          by_cases h2 : i < c
          · rw [g.idc k hk i h2]
            unfold dl
            rw [if_neg (by omega : ¬ k = i)]; omega
          · rw [if_neg h2]; omega
      rw [this]; exact h k hk (by omega)
/-- the two inverses are one -/
theorem inv_unique {X Y : Fn2} (i : Inj n B) (hX : ∀ k, k < n → ∀ j, j < n → (sumN n fun i => X k i * B i j) = dl k j) (hY : ∀ k, k < n → ∀ j, j < n → (sumN n fun i => Y k i * B i j) = dl k j) : ∀ k, k < n → ∀ i, i < n → X k i = Y k i := fun k hk j hj => by
  have := i (fun i => X k i + (-1) * Y k i) (fun j hj => ?_) j hj
  · omega
  · have e := sumN_lin (-1) (fun i => X k i * B i j) (fun i => Y k i * B i j) n
    rw [hX k hk j hj, hY k hk j hj] at e
    rw [sumN_congr (g := fun i => X k i * B i j + -1 * (Y k i * B i j)) fun i hi => by grind, e]
    omega
theorem Inj.add {k1 : Nat} {t : Nat → Int} (h1 : k1 < n) (ht : t k1 = 0) (e : ∀ k, k < n → ∀ j, j < n → M' k j = M k j - t k * M k1 j) (u : Inj n M) : Inj n M' := fun x h => by
  have z := u (fun i => x i + (- sumN n fun k => x k * t k) * dl i k1) (fun j hj => ?_)
  · have hz : ∀ i, i < n → i ≠ k1 → x i = 0 := fun i hi hne => by
      have := z i hi
      unfold dl at this
      rw [if_neg hne] at this
      omega
    have hs : (sumN n fun k => x k * t k) = 0 := by
      rw [sumN_one (k := k1) _ h1 fun i hi hne => by rw [hz i hi hne]; omega, ht]; omega
    intro i hi
    by_cases hne : i = k1
    · have := z i hi
      rw [hs] at this
      omega
    · exact hz i hi hne
  · have h2 := h j hj
    rw [sumN_congr (g := fun i => x i * M i j + (- M k1 j) * (x i * t i)) fun i hi => by rw [e i hi j hj]; grind, sumN_lin] at h2
    rw [sumN_congr (g := fun i => x i * M i j + (- sumN n fun k => x k * t k) * (dl i k1 * M i j)) fun i hi => by grind, sumN_lin]
    have e1 : (sumN n fun i => dl i k1 * M i j) = M k1 j := by
      rw [sumN_one (k := k1) _ h1 fun i hi hne => by unfold dl; rw [if_neg hne]; omega]
      unfold dl; rw [if_pos rfl]; omega
    rw [e1]
    grind
theorem Inj.neg {s : Nat → Int} (hs : ∀ k, k < n → s k * s k = 1) (e : ∀ k, k < n → ∀ j, j < n → M' k j = s k * M k j) (u : Inj n M) : Inj n M' := fun x h i hi => by
  have z := u (fun i => s i * x i) (fun j hj => by
    rw [sumN_congr (g := fun i => x i * M' i j) fun i hi => by rw [e i hi j hj]; grind]
    exact h j hj) i hi
  have := hs i hi
  have : x i = s i * (s i * x i) := by rw [← Int.mul_assoc, this]; omega
  rw [this, z]; omega
/-- rows a and b change places, by steps -/
theorem Inj.swap {a b : Nat} (ha : a < n) (hb : b < n) (hab : a ≠ b) (e : ∀ k, k < n → ∀ j, j < n → M' k j = if k = a then M b j else if k = b then M a j else M k j) (u : Inj n M) : Inj n M' := by
  have u1 : Inj n (fun k j => if k = a then M a j + M b j else M k j) := u.add (k1 := b) (t := fun k => if k = a then -1 else 0) hb (if_neg (Ne.symm hab)) fun k hk j hj => by
    by_cases h : k = a
    · subst h; simp <;> omega
    · simp [h]
  have u2 : Inj n (fun k j => if k = a then M a j + M b j else if k = b then - M a j else M k j) := u1.add (k1 := a) (t := fun k => if k = b then 1 else 0) ha (if_neg hab) fun k hk j hj => by
    by_cases h : k = a
    · subst h; simp [hab]
    · by_cases h2 : k = b
      · subst h2; simp [h] <;> omega
      · simp [h, h2]
  have u3 : Inj n (fun k j => if k = a then M b j else if k = b then - M a j else M k j) := u2.add (k1 := b) (t := fun k => if k = a then -1 else 0) hb (if_neg (Ne.symm hab)) fun k hk j hj => by
    by_cases h : k = a
    · subst h; simp [Ne.symm hab] <;> omega
    · by_cases h2 : k = b
      · subst h2; simp [h]
      · simp [h, h2]
  refine u3.neg (s := fun k => if k = b then -1 else 1) (fun k hk => by by_cases h : k = b <;> simp [h]) fun k hk j hj => ?_
  rw [e k hk j hj]
  by_cases h : k = a
  · subst h; simp [hab]
  · by_cases h2 : k = b
    · subst h2; simp [h]
    · simp [h, h2]
end
theorem uni_dl (n : Nat) : Uni n dl := fun φ p h j hj => by
  have := h j hj
  rw [sumN_one (k := j) _ hj fun i hi hne => by unfold dl; rw [if_neg fun e => hne e.symm]; omega] at this
  unfold dl at this
  simpa using this
theorem inj_dl (n : Nat) : Inj n dl := fun x h j hj => by
  have := h j hj
  rw [sumN_one (k := j) _ hj fun i hi hne => by unfold dl; rw [if_neg hne]; omega] at this
  unfold dl at this
  simpa using this
/-! ### determinants up to four -/
def det3 (a b c d e f g h i : Int) : Int := a * (e * i - f * h) - b * (d * i - f * g) + c * (d * h - e * g)
def detF (n : Nat) (M : Fn2) : Int := match n with
  | 1 => M 0 0
  | 2 => M 0 0 * M 1 1 - M 0 1 * M 1 0
  | 3 => det3 (M 0 0) (M 0 1) (M 0 2) (M 1 0) (M 1 1) (M 1 2) (M 2 0) (M 2 1) (M 2 2)
  | 4 => M 0 0 * det3 (M 1 1) (M 1 2) (M 1 3) (M 2 1) (M 2 2) (M 2 3) (M 3 1) (M 3 2) (M 3 3)
    - M 0 1 * det3 (M 1 0) (M 1 2) (M 1 3) (M 2 0) (M 2 2) (M 2 3) (M 3 0) (M 3 2) (M 3 3)
    + M 0 2 * det3 (M 1 0) (M 1 1) (M 1 3) (M 2 0) (M 2 1) (M 2 3) (M 3 0) (M 3 1) (M 3 3)
    - M 0 3 * det3 (M 1 0) (M 1 1) (M 1 2) (M 2 0) (M 2 1) (M 2 2) (M 3 0) (M 3 1) (M 3 2)
  | _ => 1
def detU (n : Nat) (M : Fn2) : Prop := detF n M = 1 ∨ detF n M = -1
theorem det_add {n k1 : Nat} {M M' : Fn2} {t : Nat → Int} (hn : n ≤ 4) (h1 : k1 < n) (ht : t k1 = 0) (e : ∀ k, k < n → ∀ j, j < n → M' k j = M k j - t k * M k1 j) : detF n M' = detF n M := by
  match n, hn with
  | 0, _ => rfl
  | 1, _ =>
    have : k1 = 0 := by omega
    subst this
    simp only [detF]
    rw [e 0 (by omega) 0 (by omega), ht]; omega
  | 2, _ =>
    have h : k1 = 0 ∨ k1 = 1 := by omega
    simp only [detF]
    rw [e 0 (by omega) 0 (by omega), e 0 (by omega) 1 (by omega), e 1 (by omega) 0 (by omega), e 1 (by omega) 1 (by omega)]
    rcases h with h | h <;> subst h <;> rw [ht] <;> grind
  | 3, _ =>
    have h : k1 = 0 ∨ k1 = 1 ∨ k1 = 2 := by omega
    simp only [detF, det3]
    simp only [e 0 (by omega) 0 (by omega), e 0 (by omega) 1 (by omega), e 0 (by omega) 2 (by omega), e 1 (by omega) 0 (by omega), e 1 (by omega) 1 (by omega), e 1 (by omega) 2 (by omega), e 2 (by omega) 0 (by omega), e 2 (by omega) 1 (by omega), e 2 (by omega) 2 (by omega)]
    clear e
    rcases h with h | h | h <;> subst h <;> simp only [ht] <;> clear ht <;> grind
  | 4, _ =>
    have h : k1 = 0 ∨ k1 = 1 ∨ k1 = 2 ∨ k1 = 3 := by omega
    simp only [detF, det3]
    simp only [e 0 (by omega) 0 (by omega), e 0 (by omega) 1 (by omega), e 0 (by omega) 2 (by omega), e 0 (by omega) 3 (by omega), e 1 (by omega) 0 (by omega), e 1 (by omega) 1 (by omega), e 1 (by omega) 2 (by omega), e 1 (by omega) 3 (by omega), e 2 (by omega) 0 (by omega), e 2 (by omega) 1 (by omega), e 2 (by omega) 2 (by omega), e 2 (by omega) 3 (by omega), e 3 (by omega) 0 (by omega), e 3 (by omega) 1 (by omega), e 3 (by omega) 2 (by omega), e 3 (by omega) 3 (by omega)]
    clear e
    rcases h with h | h | h | h <;> subst h <;> simp only [ht] <;> clear ht <;> grind
theorem det_neg {n k1 : Nat} {M M' : Fn2} (hn : n ≤ 4) (h1 : k1 < n) (e : ∀ k, k < n → ∀ j, j < n → M' k j = if k = k1 then - M k j else M k j) : detF n M' = - detF n M := by
  match n, hn with
  | 0, _ => omega
  | 1, _ =>
    have : k1 = 0 := by omega
    subst this
    simp only [detF]
    rw [e 0 (by omega) 0 (by omega)]; simp
  | 2, _ =>
    have h : k1 = 0 ∨ k1 = 1 := by omega
    simp only [detF]
    rw [e 0 (by omega) 0 (by omega), e 0 (by omega) 1 (by omega), e 1 (by omega) 0 (by omega), e 1 (by omega) 1 (by omega)]
    rcases h with h | h <;> subst h <;> simp <;> grind
  | 3, _ =>
    have h : k1 = 0 ∨ k1 = 1 ∨ k1 = 2 := by omega
    simp only [detF, det3]
    simp only [e 0 (by omega) 0 (by omega), e 0 (by omega) 1 (by omega), e 0 (by omega) 2 (by omega), e 1 (by omega) 0 (by omega), e 1 (by omega) 1 (by omega), e 1 (by omega) 2 (by omega), e 2 (by omega) 0 (by omega), e 2 (by omega) 1 (by omega), e 2 (by omega) 2 (by omega)]
    clear e
    rcases h with h | h | h <;> subst h <;> simp <;> grind
  | 4, _ =>
    have h : k1 = 0 ∨ k1 = 1 ∨ k1 = 2 ∨ k1 = 3 := by omega
    simp only [detF, det3]
    simp only [e 0 (by omega) 0 (by omega), e 0 (by omega) 1 (by omega), e 0 (by omega) 2 (by omega), e 0 (by omega) 3 (by omega), e 1 (by omega) 0 (by omega), e 1 (by omega) 1 (by omega), e 1 (by omega) 2 (by omega), e 1 (by omega) 3 (by omega), e 2 (by omega) 0 (by omega), e 2 (by omega) 1 (by omega), e 2 (by omega) 2 (by omega), e 2 (by omega) 3 (by omega), e 3 (by omega) 0 (by omega), e 3 (by omega) 1 (by omega), e 3 (by omega) 2 (by omega), e 3 (by omega) 3 (by omega)]
    clear e
    rcases h with h | h | h | h <;> subst h <;> simp <;> grind
abbrev g0 (r : List Int) (i : Nat) : Int := r.getD i 0
/-- the minor of the leads and a row, in the columns before s and q -/
def mn (ls : List (List Int)) (r : List Int) (q : Nat) : Int := match ls with
  | [] => g0 r q
  | [a] => g0 a 0 * g0 r q - g0 a q * g0 r 0
  | [a, b] => det3 (g0 a 0) (g0 a 1) (g0 a q) (g0 b 0) (g0 b 1) (g0 b q) (g0 r 0) (g0 r 1) (g0 r q)
  | a :: b :: c :: _ => g0 a 0 * det3 (g0 b 1) (g0 b 2) (g0 b q) (g0 c 1) (g0 c 2) (g0 c q) (g0 r 1) (g0 r 2) (g0 r q)
    - g0 a 1 * det3 (g0 b 0) (g0 b 2) (g0 b q) (g0 c 0) (g0 c 2) (g0 c q) (g0 r 0) (g0 r 2) (g0 r q)
    + g0 a 2 * det3 (g0 b 0) (g0 b 1) (g0 b q) (g0 c 0) (g0 c 1) (g0 c q) (g0 r 0) (g0 r 1) (g0 r q)
    - g0 a q * det3 (g0 b 0) (g0 b 1) (g0 b 2) (g0 c 0) (g0 c 1) (g0 c 2) (g0 r 0) (g0 r 1) (g0 r 2)
/-- what stood before -/
def bef (ls : List (List Int)) : Int := match ls with
  | [] => 1
  | [a] => g0 a 0
  | [a, b] => mn [a] b 1
  | [a, b, c] => mn [a, b] c 2
  | a :: b :: c :: d :: _ => mn [a, b, c] d 3
theorem sylv {ls : List (List Int)} {r x : List Int} {q : Nat} (h : ls.length ≤ 2) : mn ls r ls.length * mn ls x q - mn ls x ls.length * mn ls r q = bef ls * mn (ls ++ [r]) x q := by
  match ls, h with
  | [], _ => simp only [mn, bef, List.length_nil, List.nil_append]; grind
  | [a], _ => simp only [mn, bef, det3, List.length_cons, List.length_nil, List.cons_append, List.nil_append]; grind
  | [a, b], _ => simp only [mn, bef, det3, List.length_cons, List.length_nil, List.cons_append, List.nil_append]; grind
theorem bef_snoc {ls : List (List Int)} {r : List Int} (h : ls.length ≤ 3) : bef (ls ++ [r]) = mn ls r ls.length := by
  match ls, h with
  | [], _ => rfl
  | [a], _ => rfl
  | [a, b], _ => rfl
  | [a, b, c], _ => rfl
def detL (L : List (List Int)) : Prop := detU L.length (en L)
theorem detF_big {n : Nat} (h : 5 ≤ n) (M : Fn2) : detF n M = 1 := by
  match n, h with
  | n + 5, _ => rfl
theorem detL_swap {A C : List (List Int)} {a b : List Int} (h : detL (A ++ a :: b :: C)) : detL (A ++ b :: a :: C) := by
  have key : detF (A ++ b :: a :: C).length (en (A ++ b :: a :: C)) = - detF (A ++ a :: b :: C).length (en (A ++ a :: b :: C)) ∨ 5 ≤ (A ++ b :: a :: C).length := by
    match A, C with
    | [], [] => left; simp [detF, en]; grind
    | [], [x] => left; simp [detF, en, det3]; grind
    | [], [x, y] => left; simp [detF, en, det3]; grind
    | [], x :: y :: z :: _ => right; simp
    | [x], [] => left; simp [detF, en, det3]; grind
    | [x], [y] => left; simp [detF, en, det3]; grind
    | [x], y :: z :: _ => right; simp
    | [x, y], [] => left; simp [detF, en, det3]; grind
    | [x, y], z :: _ => right; simp
    | x :: y :: z :: _, _ => right; simp; omega
  unfold detL detU at *
  rcases key with k | k
  · rw [k]; omega
  · left; exact detF_big k _
theorem detL_perm {l l' : List (List Int)} (p : l.Perm l') : ∀ A, detL (A ++ l) → detL (A ++ l') := by
  induction p with
  | nil => exact fun A h => h
  | cons x _ ih =>
    intro A h
    have := ih (A ++ [x]) (by simpa using h)
    simpa using this
  | swap x y l => exact fun A h => detL_swap h
  | trans _ _ i1 i2 => exact fun A h => i2 A (i1 A h)
theorem detL_last {ls : List (List Int)} {r : List Int} (h : ls.length ≤ 3) (d : detL (ls ++ [r])) : mn ls r ls.length = 1 ∨ mn ls r ls.length = -1 := by
  unfold detL detU at d
  match ls, h with
  | [], _ => simpa [detF, en, mn] using d
  | [a], _ => simpa [detF, en, mn] using d
  | [a, b], _ => simpa [detF, en, mn] using d
  | [a, b, c], _ => simpa [detF, en, mn] using d
/-! ### orders, parts -/
/-- a total strict order -/
structure TotLt {α : Type} (lt : α → α → Bool) : Prop where
  irr : ∀ a, lt a a = false
  tr : ∀ {a b c}, lt a b = true → lt b c = true → lt a c = true
  tri : ∀ {a b}, lt a b = false → lt b a = false → a = b
namespace TotLt
variable {α β : Type} {lt : α → α → Bool} {lu : β → β → Bool}
def le (lt : α → α → Bool) (a b : α) : Bool := !lt b a
theorem asym (t : TotLt lt) {a b : α} (h : lt a b = true) : lt b a = false := by
  cases e : lt b a with
  | false => rfl
  | true => have := t.tr h e; rw [t.irr] at this; cases this
theorem total (t : TotLt lt) (a b : α) : (le lt a b || le lt b a) = true := by
  unfold le
  cases e : lt a b with
  | false => simp
  | true => rw [t.asym e]; rfl
theorem trans (t : TotLt lt) (a b c : α) (h : le lt a b = true) (k : le lt b c = true) : le lt a c = true := by
  unfold le at *
  simp only [Bool.not_eq_true'] at *
  cases e : lt c a with
  | false => rfl
  | true =>
    cases e1 : lt a b with
    | true => have := t.tr e e1; rw [k] at this; cases this
    | false => have := t.tri e1 h; subst this; rw [k] at e; cases e
theorem anti (t : TotLt lt) {a b : α} (h : le lt a b = true) (k : le lt b a = true) : a = b := by
  unfold le at *
  simp only [Bool.not_eq_true'] at *
  exact t.tri k h
theorem sorted (t : TotLt lt) (l : List α) : (l.mergeSort (le lt)).Pairwise fun a b => le lt a b = true := List.pairwise_mergeSort t.trans t.total l
theorem uniq (t : TotLt lt) {l m : List α} (p : l.Perm m) (h : m.Pairwise fun a b => le lt a b = true) : l.mergeSort (le lt) = m := by
  refine List.Perm.eq_of_pairwise (fun a b _ _ h k => t.anti h k) (t.sorted l) h ((List.mergeSort_perm l _).trans p)
def lex [DecidableEq α] (lt : α → α → Bool) (lu : β → β → Bool) (a b : α × β) : Bool := if a.1 = b.1 then lu a.2 b.2 else lt a.1 b.1
theorem lexT [DecidableEq α] (t : TotLt lt) (u : TotLt lu) : TotLt (lex lt lu) where
  irr := fun a => by unfold lex; rw [if_pos rfl]; exact u.irr _
  tr := fun {a b c} h k => by
    unfold lex at *
    by_cases e1 : a.1 = b.1
    · rw [if_pos e1] at h
      by_cases e2 : b.1 = c.1
      · rw [if_pos e2] at k
        rw [if_pos (e1.trans e2)]; exact u.tr h k
      · rw [if_neg e2] at k
        rw [e1, if_neg e2]; exact k
    · rw [if_neg e1] at h
      by_cases e2 : b.1 = c.1
      · rw [← e2, if_neg e1]; exact h
      · rw [if_neg e2] at k
        have := t.tr h k
        rw [if_neg (fun e => by rw [e, t.irr] at this; cases this)]; exact this
  tri := fun {a b} h k => by
    unfold lex at *
    by_cases e : a.1 = b.1
    · rw [if_pos e] at h
      rw [if_pos e.symm] at k
      exact Prod.ext e (u.tri h k)
    · rw [if_neg e] at h
      rw [if_neg fun z => e z.symm] at k
      exact absurd (t.tri h k) e
end TotLt
open TotLt
def ltL (a b : List Int) : Bool := decide (a < b)
theorem ltL_tot : TotLt ltL where
  irr := fun a => by unfold ltL; simp
  tr := fun {a b c} h k => by
    unfold ltL at *
    simp only [decide_eq_true_eq] at *
    exact List.lt_trans h k
  tri := fun {a b} h k => by
    unfold ltL at *
    simp only [decide_eq_false_iff_not] at *
    exact List.le_antisymm (List.not_lt.mp k) (List.not_lt.mp h)
abbrev RowI := List Int
abbrev Trip := RowI × RowI × RowI
def lt2 : RowI × RowI → RowI × RowI → Bool := lex ltL ltL
def lt3 : Trip → Trip → Bool := lex ltL lt2
theorem lt2_tot : TotLt lt2 := lexT ltL_tot ltL_tot
theorem lt3_tot : TotLt lt3 := lexT ltL_tot lt2_tot
/-- the groups of what is sorted by its homes -/
def groupStep (told : List (RowI × List RowI)) (t : Trip) : List (RowI × List RowI) := match told.getLast? with
  | some (h, ps) => if h = t.1 then told.dropLast ++ [(h, ps ++ [t.2.2])] else told ++ [(t.1, [t.2.2])]
  | none => told ++ [(t.1, [t.2.2])]
def group (ts : List Trip) : List (RowI × List RowI) := ts.foldl groupStep []
def pairsAt (ts : List Trip) (h : RowI) : List (RowI × RowI) := (ts.filter fun t => t.1 = h).map (·.2)
def partsOf (homes : List RowI) (ts : List Trip) : List (RowI × List RowI) := (homes.mergeSort (le ltL)).map fun h => (h, ((pairsAt ts h).mergeSort (le lt2)).map (·.2))
theorem group_run (h : RowI) : ∀ (ps : List (RowI × RowI)) (told : List (RowI × List RowI)) (qs : List RowI), (ps.map fun p => (h, p)).foldl groupStep (told ++ [(h, qs)]) = told ++ [(h, qs ++ ps.map (·.2))]
  | [], told, qs => by simp
  | p :: ps, told, qs => by
    rw [List.map_cons, List.foldl_cons]
    have : groupStep (told ++ [(h, qs)]) (h, p) = told ++ [(h, qs ++ [p.2])] := by
      unfold groupStep
      simp
    rw [this, group_run h ps told (qs ++ [p.2])]
    simp
theorem group_block {h : RowI} {ps : List (RowI × RowI)} {told : List (RowI × List RowI)} (hne : ps ≠ []) (hl : ∀ g ∈ told, g.1 ≠ h) : (ps.map fun p => (h, p)).foldl groupStep told = told ++ [(h, ps.map (·.2))] := by
  cases ps with
  | nil => exact absurd rfl hne
  | cons p ps =>
    rw [List.map_cons, List.foldl_cons]
    have : groupStep told (h, p) = told ++ [(h, [p.2])] := by
      unfold groupStep
      cases e : told.getLast? with
      | none => rfl
      | some g =>
        have hg : g ∈ told := List.mem_of_getLast? e
        obtain ⟨g1, g2⟩ := g
        simp only
        rw [if_neg (hl _ hg)]
    rw [this, group_run]
    simp
theorem group_blocks (f : RowI → List (RowI × RowI)) : ∀ (hs : List RowI) (told : List (RowI × List RowI)), hs.Nodup → (∀ h ∈ hs, f h ≠ []) → (∀ g ∈ told, g.1 ∉ hs) →
    (hs.flatMap fun h => (f h).map fun p => (h, p)).foldl groupStep told = told ++ hs.map fun h => (h, (f h).map (·.2))
  | [], told, _, _, _ => by simp
  | h :: hs, told, nd, hne, hl => by
    rw [List.nodup_cons] at nd
    rw [List.flatMap_cons, List.foldl_append, group_block (hne h List.mem_cons_self) fun g hg e => hl g hg (by rw [e]; exact List.mem_cons_self),
      group_blocks f hs _ nd.2 (fun x hx => hne x (List.mem_cons_of_mem _ hx)) fun g hg => ?_]
    · simp
    · rcases List.mem_append.mp hg with q | q
      · exact fun z => hl g q (List.mem_cons_of_mem _ z)
      · rw [List.mem_singleton.mp q]; exact nd.1
theorem lex_le_of {a b : Trip} (h : a.1 ≠ b.1) (k : le ltL a.1 b.1 = true) : le lt3 a b = true := by
  unfold le lt3 lex at *
  rw [if_neg fun e => h e.symm]
  exact k
theorem flatMap_cg {α β : Type} {f g : α → List β} : ∀ {l : List α}, (∀ x ∈ l, f x = g x) → l.flatMap f = l.flatMap g
  | [], _ => rfl
  | x :: l, h => by rw [List.flatMap_cons, List.flatMap_cons, h x List.mem_cons_self, flatMap_cg fun y hy => h y (List.mem_cons_of_mem _ hy)]
theorem perm_split {hs : List RowI} (nd : hs.Nodup) : ∀ {ts : List Trip}, (∀ t ∈ ts, t.1 ∈ hs) → ts.Perm (hs.flatMap fun h => ts.filter fun t => t.1 = h) := by
  induction hs with
  | nil =>
    intro ts h
    cases ts with
    | nil => simp
    | cons t ts => exact absurd (h t List.mem_cons_self) (by simp)
  | cons h hs ih =>
    intro ts hm
    rw [List.nodup_cons] at nd
    rw [List.flatMap_cons]
    have p1 : ts.Perm ((ts.filter fun t => t.1 = h) ++ ts.filter fun t => !decide (t.1 = h)) := (List.filter_append_perm _ _).symm
    refine p1.trans (List.Perm.append_left _ ?_)
    have e := ih nd.2 (ts := ts.filter fun t => !decide (t.1 = h)) fun t ht => by
      rw [List.mem_filter] at ht
      have := hm t ht.1
      rcases List.mem_cons.mp this with q | q
      · simp [q] at ht
      · exact q
    refine e.trans (List.Perm.of_eq ?_)
    refine flatMap_cg fun x hx => ?_
    rw [List.filter_filter]
    refine List.filter_congr fun t _ => ?_
    by_cases q : t.1 = x
    · have : ¬ t.1 = h := fun e => nd.1 (by rw [← e, q]; exact hx)
      simp [q, this]
      intro e; exact this (q.trans e)
    · simp [q]
theorem parts_eq {ts : List Trip} {homes : List RowI} (nd : homes.Nodup) (hm : ∀ h, h ∈ homes ↔ ∃ t ∈ ts, t.1 = h) : group (ts.mergeSort (le lt3)) = partsOf homes ts := by
  let hs := homes.mergeSort (le ltL)
  have hp : hs.Perm homes := List.mergeSort_perm _ _
  have hnd : hs.Nodup := hp.nodup_iff.mpr nd
  let f := fun h => (pairsAt ts h).mergeSort (le lt2)
  have hT : ts.mergeSort (le lt3) = hs.flatMap fun h => (f h).map fun p => (h, p) := by
    refine lt3_tot.uniq ((perm_split hnd fun t ht => hp.mem_iff.mpr ((hm t.1).mpr ⟨t, ht, rfl⟩)).trans ?_) ?_
    · have : ∀ l : List RowI, (l.flatMap fun h => ts.filter fun t => t.1 = h).Perm (l.flatMap fun h => (f h).map fun p => (h, p)) := fun l => by
        induction l with
        | nil => exact .nil
        | cons h l ih =>
          rw [List.flatMap_cons, List.flatMap_cons]
          refine List.Perm.append ?_ ih
          have p1 := (List.mergeSort_perm (pairsAt ts h) (le lt2)).symm.map fun p => (h, p)
          refine (List.Perm.of_eq ?_).trans p1
          unfold pairsAt
          rw [List.map_map]
          have : ∀ l : List Trip, (∀ t ∈ l, t.1 = h) → l = l.map ((fun p => (h, p)) ∘ fun x => x.2) := fun l => by
            induction l with
            | nil => intro _; rfl
            | cons t l ih =>
              intro q
              rw [List.map_cons, ← ih fun x hx => q x (List.mem_cons_of_mem _ hx)]
              have := q t List.mem_cons_self
              congr 1
              exact Prod.ext this rfl
          exact this _ fun t ht => by simpa using (List.mem_filter.mp ht).2
      exact this hs
    · rw [List.pairwise_flatMap]
      refine ⟨fun h _ => ?_, ?_⟩
      · rw [List.pairwise_map]
        refine (lt2_tot.sorted (pairsAt ts h)).imp fun {a b} q => ?_
        unfold le lt3 lex at *
        rw [if_pos rfl]
        exact q
      · refine ((ltL_tot.sorted homes).and hnd).imp fun {a b} q x hx y hy => ?_
        obtain ⟨p, _, rfl⟩ := List.mem_map.mp hx
        obtain ⟨p', _, rfl⟩ := List.mem_map.mp hy
        exact lex_le_of q.2 q.1
  unfold group
  rw [hT, group_blocks f hs [] hnd (fun h hh e => ?_) (fun g hg => by cases hg)]
  · rfl
  · obtain ⟨t, ht, q⟩ := (hm h).mp (hp.mem_iff.mp hh)
    have : t.2 ∈ f h := (List.mergeSort_perm _ _).mem_iff.mpr (List.mem_map_of_mem (List.mem_filter.mpr ⟨ht, by simpa using q⟩))
    rw [e] at this
    cases this
/-! ### the steps in one column: sizes -/
def Bd (n : Nat) (M : Fn2) (P : Nat) : Prop := ∀ k, k < n → ∀ j, j < 2 * n → (M k j).natAbs ≤ P
structure Eu2 (n c A : Nat) (M : Fn2) (P X : Nat) : Prop where
  bd : Bd n M P
  col : ∀ k, k < n → c ≤ k → (M k c).natAbs ≤ X
  sg : ∃ s : Int, (s = 1 ∨ s = -1) ∧ ∀ k, k < n → c ≤ k → 0 ≤ s * M k c
  top : P ≤ 4 * A ^ 5
  two : ∀ a b, a < n → b < n → c ≤ a → c ≤ b → a ≠ b → M a c ≠ 0 → M b c ≠ 0 → ∃ k0, k0 < n ∧ c ≤ k0 ∧ M k0 c ≠ 0 ∧ P * X * (X * (M k0 c).natAbs) ≤ 2 * A ^ 5
def Eu (n c A : Nat) (M : Fn2) : Prop := Bd n M A ∨ ∃ P X, Eu2 n c A M P X
/-- one pass: the lead is k1 -/
structure Pass (n c : Nat) (M M' : Fn2) (k1 : Nat) (t : Nat → Int) : Prop where
  k1n : k1 < n
  ck : c ≤ k1
  cn : c < n
  live : M k1 c ≠ 0
  least : ∀ k, k < n → c ≤ k → M k c ≠ 0 → (M k1 c).natAbs ≤ (M k c).natAbs
  t1 : t k1 = 0
  tlo : ∀ k, k < c → t k = 0
  thi : ∀ k, k < n → c ≤ k → k ≠ k1 → t k = (M k c).fdiv (M k1 c)
  e : ∀ k, k < n → ∀ j, j < 2 * n → M' k j = M k j - t k * M k1 j
theorem fdiv_abs (a b : Int) (hb : b ≠ 0) : (a.fdiv b).natAbs ≤ a.natAbs := by
  have h1 := Int.mul_fdiv_add_fmod a b
  have h2 : 0 < b → 0 ≤ a.fmod b ∧ a.fmod b < b := fun h => ⟨Int.fmod_nonneg_of_pos a h, Int.fmod_lt_of_pos a h⟩
  have h3 : b < 0 → a.fmod b ≤ 0 ∧ b < a.fmod b := fun h => by
    have e : a.fmod b = - (-a).fmod (-b) := by rw [Int.neg_fmod_neg]; omega
    have h4 := Int.fmod_nonneg_of_pos (-a) (b := -b) (by omega)
    have h5 := Int.fmod_lt_of_pos (-a) (b := -b) (by omega)
    omega
  generalize a.fdiv b = q at *
  generalize a.fmod b = r at *
  rcases Int.lt_trichotomy b 0 with h | h | h
  · obtain ⟨h4, h5⟩ := h3 h
    rcases Int.lt_trichotomy q 0 with hq | hq | hq
    · have : (-b) * (-q) ≥ 1 * (-q) := Int.mul_le_mul_of_nonneg_right (by omega) (by omega)
      have e : (-b) * (-q) = b * q := by grind
      have : (-b - 1) * (-q - 1) ≥ 0 := Int.mul_nonneg (by omega) (by omega)
      have e2 : (-b - 1) * (-q - 1) = b * q + b + q + 1 := by grind
      omega
    · subst hq; simp
    · have : (-b) * q ≥ 1 * q := Int.mul_le_mul_of_nonneg_right (by omega) (by omega)
      have e : (-b) * q = - (b * q) := by grind
      omega
  · exact absurd h hb
  · obtain ⟨h4, h5⟩ := h2 h
    rcases Int.lt_trichotomy q 0 with hq | hq | hq
    · have : (b - 1) * (-q - 1) ≥ 0 := Int.mul_nonneg (by omega) (by omega)
      have e2 : (b - 1) * (-q - 1) = - (b * q) - b + q + 1 := by grind
      omega
    · subst hq; simp
    · have : b * q ≥ 1 * q := Int.mul_le_mul_of_nonneg_right (by omega) (by omega)
      omega
theorem fmod_bound (a b : Int) (hb : b ≠ 0) : (a.fmod b).natAbs < b.natAbs ∧ 0 ≤ b * a.fmod b := by
  rcases Int.lt_trichotomy b 0 with h | h | h
  · have e : a.fmod b = - (-a).fmod (-b) := by rw [Int.neg_fmod_neg]; omega
    have h4 := Int.fmod_nonneg_of_pos (-a) (b := -b) (by omega)
    have h5 := Int.fmod_lt_of_pos (-a) (b := -b) (by omega)
    refine ⟨by omega, ?_⟩
    rw [e]
    have := Int.mul_nonneg (a := -b) (b := (-a).fmod (-b)) (by omega) h4
    grind
  · exact absurd h hb
  · have h4 := Int.fmod_nonneg_of_pos a h
    have h5 := Int.fmod_lt_of_pos a h
    exact ⟨by omega, Int.mul_nonneg (by omega) h4⟩
section
variable {n c A k1 : Nat} {M M' : Fn2} {t : Nat → Int}
theorem Pass.lead (p : Pass n c M M' k1 t) {j : Nat} (hj : j < 2 * n) : M' k1 j = M k1 j := by rw [p.e k1 p.k1n j hj, p.t1]; omega
theorem Pass.rem (p : Pass n c M M' k1 t) {k : Nat} (hk : k < n) (hc : c ≤ k) (h : k ≠ k1) : M' k c = (M k c).fmod (M k1 c) := by
  rw [p.e k hk c (by have := p.cn; omega), p.thi k hk hc h, Int.fmod_def]
  grind
theorem Pass.sg (p : Pass n c M M' k1 t) : ∃ s : Int, (s = 1 ∨ s = -1) ∧ ∀ k, k < n → c ≤ k → 0 ≤ s * M' k c := by
  have hl := p.lead (j := c) (by have := p.cn; omega)
  have hlive := p.live
  have key : ∀ k, k < n → c ≤ k → 0 ≤ M k1 c * M' k c := fun k hk hc => by
    by_cases e : k = k1
    · subst e
      rw [hl]
      exact (Int.le_total 0 (M k c)).elim (fun h => Int.mul_nonneg h h) fun h => Int.mul_nonneg_of_nonpos_of_nonpos h h
    · rw [p.rem hk hc e]; exact (fmod_bound _ _ p.live).2
  rcases Int.lt_trichotomy (M k1 c) 0 with h | h | h
  · refine ⟨-1, .inr rfl, fun k hk hc => ?_⟩
    have := key k hk hc
    have : M' k c ≤ 0 := Int.not_lt.mp fun q => by
      have := Int.mul_pos (a := - M k1 c) (b := M' k c) (by omega) q
      have e : - M k1 c * M' k c = - (M k1 c * M' k c) := by grind
      omega
    omega
  · exact absurd h hlive
  · refine ⟨1, .inl rfl, fun k hk hc => ?_⟩
    have := key k hk hc
    have : 0 ≤ M' k c := Int.not_lt.mp fun q => by
      have := Int.mul_pos (a := M k1 c) (b := - M' k c) h (by omega)
      have e : M k1 c * - M' k c = - (M k1 c * M' k c) := by grind
      omega
    omega
theorem Pass.col (p : Pass n c M M' k1 t) : ∀ k, k < n → c ≤ k → (M' k c).natAbs ≤ (M k1 c).natAbs := fun k hk hc => by
  by_cases e : k = k1
  · subst e; rw [p.lead (by have := p.cn; omega)]; exact Nat.le_refl _
  · rw [p.rem hk hc e]; exact Nat.le_of_lt (fmod_bound _ _ p.live).1
theorem bd_step {P T : Nat} (h : Bd n M P) (p : Pass n c M M' k1 t) (ht : ∀ k, k < n → (t k).natAbs ≤ T) : Bd n M' (P + T * P) := fun k hk j hj => by
  rw [p.e k hk j hj]
  have h1 := h k hk j hj
  have h2 := h k1 p.k1n j hj
  have h3 : (t k * M k1 j).natAbs ≤ T * P := by rw [Int.natAbs_mul]; exact Nat.mul_le_mul (ht k hk) h2
  omega
theorem Pass.eu1 (p : Pass n c M M' k1 t) (h : Bd n M A) (hA : 1 ≤ A) : Eu n c A M' := by
  have cn := p.cn
  have ht : ∀ k, k < n → (t k).natAbs ≤ A := fun k hk => by
    by_cases hc : c ≤ k
    · by_cases e : k = k1
      · rw [e, p.t1]; simp
      · rw [p.thi k hk hc e]
        exact Nat.le_trans (fdiv_abs _ _ p.live) (h k hk c (by omega))
    · rw [p.tlo k (by omega)]; simp
  have hb := bd_step h p ht
  have h2 : A + A * A ≤ 2 * (A * A) := by
    have := Nat.mul_le_mul_right A hA
    omega
  have h5 : A ^ 5 = A * A * (A * (A * A)) := by rw [Nat.pow_succ, Nat.pow_succ, Nat.pow_succ, Nat.pow_succ, Nat.pow_succ, Nat.pow_zero]; grind
  have hA3 : 1 ≤ A * (A * A) := Nat.mul_pos hA (Nat.mul_pos hA hA)
  have h22 : A * A ≤ A ^ 5 := by
    rw [h5]
    exact Nat.le_mul_of_pos_right _ hA3
  refine .inr ⟨A + A * A, (M k1 c).natAbs, hb, p.col, p.sg, by omega, fun a b ha hbn ca cb hab la lb => ?_⟩
  obtain ⟨k2, hk2, ck2, ne2, l2⟩ : ∃ k2, k2 < n ∧ c ≤ k2 ∧ k2 ≠ k1 ∧ M' k2 c ≠ 0 := by
    by_cases e : a = k1
    · exact ⟨b, hbn, cb, fun q => hab (e.trans q.symm), lb⟩
    · exact ⟨a, ha, ca, e, la⟩
  refine ⟨k2, hk2, ck2, l2, ?_⟩
  have m1 : (M k1 c).natAbs ≤ A := h k1 p.k1n c (by omega)
  have m2 : (M' k2 c).natAbs ≤ A := Nat.le_trans (p.col k2 hk2 ck2) m1
  calc (A + A * A) * (M k1 c).natAbs * ((M k1 c).natAbs * (M' k2 c).natAbs) ≤ (2 * (A * A)) * A * (A * A) := Nat.mul_le_mul (Nat.mul_le_mul h2 m1) (Nat.mul_le_mul m1 m2)
    _ = 2 * A ^ 5 := by rw [h5]; grind
theorem fdiv_same {a b s : Int} (hs : s = 1 ∨ s = -1) (ha : 0 ≤ s * a) (hb : 0 < s * b) : (a.fdiv b).natAbs = a.natAbs / b.natAbs ∧ (a.fmod b).natAbs = a.natAbs % b.natAbs := by
  rcases hs with h | h
  · subst h
    obtain ⟨x, rfl⟩ := Int.eq_ofNat_of_zero_le (show 0 ≤ a by omega)
    obtain ⟨y, rfl⟩ := Int.eq_ofNat_of_zero_le (show 0 ≤ b by omega)
    rw [Int.fdiv_eq_ediv_of_nonneg _ (by omega), Int.fmod_eq_emod_of_nonneg _ (by omega)]
    exact ⟨rfl, rfl⟩
  · subst h
    obtain ⟨x, hx⟩ := Int.eq_ofNat_of_zero_le (show 0 ≤ -a by omega)
    obtain ⟨y, hy⟩ := Int.eq_ofNat_of_zero_le (show 0 ≤ -b by omega)
    have e1 : a.fdiv b = (-a).fdiv (-b) := by rw [Int.neg_fdiv_neg]
    have e2 : a.fmod b = - (-a).fmod (-b) := by rw [Int.neg_fmod_neg]; omega
    rw [e1, e2, hx, hy, Int.fdiv_eq_ediv_of_nonneg _ (by omega), Int.fmod_eq_emod_of_nonneg _ (by omega), Int.natAbs_neg]
    have a1 : a.natAbs = x := by omega
    have b1 : b.natAbs = y := by omega
    rw [a1, b1]
    exact ⟨rfl, rfl⟩
theorem Pass.eu2 (p : Pass n c M M' k1 t) {P X : Nat} (h : Eu2 n c A M P X) {a b : Nat} (ha : a < n) (hb : b < n) (ca : c ≤ a) (cb : c ≤ b) (hab : a ≠ b) (la : M a c ≠ 0) (lb : M b c ≠ 0) : ∃ P', Eu2 n c A M' P' (M k1 c).natAbs := by
  obtain ⟨k0, hk0, ck0, l0, b0⟩ := h.two a b ha hb ca cb hab la lb
  obtain ⟨s, hs, hsg⟩ := h.sg
  have cn := p.cn
  have hlive := p.live
  let m := (M k1 c).natAbs
  have hm : 0 < m := by show 0 < (M k1 c).natAbs; omega
  have hmX : m ≤ X := h.col k1 p.k1n p.ck
  have bm : P * X * (X * m) ≤ 2 * A ^ 5 := Nat.le_trans (Nat.mul_le_mul_left _ (Nat.mul_le_mul_left _ (p.least k0 hk0 ck0 l0))) b0
  have sl : 0 < s * M k1 c := by
    have := hsg k1 p.k1n p.ck
    rcases hs with q | q <;> subst q <;> omega
  have ht : ∀ k, k < n → (t k).natAbs ≤ X / m := fun k hk => by
    by_cases hc : c ≤ k
    · by_cases e : k = k1
      · rw [e, p.t1]; simp
      · rw [p.thi k hk hc e, (fdiv_same hs (hsg k hk hc) sl).1]
        exact Nat.div_le_div_right (h.col k hk hc)
    · rw [p.tlo k (by omega)]; simp
  have hb' := bd_step h.bd p ht
  have hP : (P + X / m * P) * m ≤ 2 * (P * X) := by
    have h1 : X / m * m ≤ X := Nat.div_mul_le_self X m
    have h2 : (P + X / m * P) * m = P * m + P * (X / m * m) := by grind
    have h3 := Nat.mul_le_mul_left P h1
    have h4 := Nat.mul_le_mul_left P hmX
    omega
  have hX : 1 ≤ X * m := Nat.mul_pos (by omega) hm
  refine ⟨P + X / m * P, hb', p.col, p.sg, ?_, fun a b ha hbn ca cb hab la lb => ?_⟩
  · have h1 : P + X / m * P ≤ (P + X / m * P) * m := Nat.le_mul_of_pos_right _ hm
    have h2 : P * X ≤ P * X * (X * m) := Nat.le_mul_of_pos_right _ hX
    omega
  · obtain ⟨k2, hk2, ck2, ne2, l2⟩ : ∃ k2, k2 < n ∧ c ≤ k2 ∧ k2 ≠ k1 ∧ M' k2 c ≠ 0 := by
      by_cases e : a = k1
      · exact ⟨b, hbn, cb, fun q => hab (e.trans q.symm), lb⟩
      · exact ⟨a, ha, ca, e, la⟩
    refine ⟨k2, hk2, ck2, l2, ?_⟩
    have er : (M' k2 c).natAbs = (M k2 c).natAbs % m := by rw [p.rem hk2 ck2 ne2]; exact (fdiv_same hs (hsg k2 hk2 ck2) sl).2
    have l2' : M k2 c ≠ 0 := fun z => by rw [z] at er; simp at er; omega
    have hge := p.least k2 hk2 ck2 l2'
    have hX2 := h.col k2 hk2 ck2
    generalize hx : (M k2 c).natAbs = x at *
    generalize hr : (M' k2 c).natAbs = r at *
    have hlt : r < m := by rw [er]; exact Nat.mod_lt _ hm
    have h2r : 2 * r ≤ X := by
      have := Nat.div_add_mod x m
      have h1 : 1 ≤ x / m := Nat.div_pos hge hm
      have h3 : m * 1 ≤ m * (x / m) := Nat.mul_le_mul_left m h1
      omega
    show (P + X / m * P) * m * (m * r) ≤ _
    refine Nat.le_trans ?_ bm
    calc (P + X / m * P) * m * (m * r) ≤ 2 * (P * X) * (m * r) := Nat.mul_le_mul_right _ hP
      _ = P * X * (m * (2 * r)) := by grind
      _ ≤ P * X * (m * X) := Nat.mul_le_mul_left _ (Nat.mul_le_mul_left _ h2r)
      _ = P * X * (X * m) := by grind
theorem Eu.bd (h : Eu n c A M) (hA : 1 ≤ A) : Bd n M (4 * A ^ 5) := fun k hk j hj => by
  have h1 : A ≤ A ^ 5 := Nat.le_self_pow (by omega) A
  rcases h with h | ⟨P, X, h⟩
  · have := h k hk j hj; omega
  · have := h.bd k hk j hj; have := h.top; omega
theorem Pass.eu (p : Pass n c M M' k1 t) (h : Eu n c A M) (hA : 1 ≤ A) {a b : Nat} (ha : a < n) (hb : b < n) (ca : c ≤ a) (cb : c ≤ b) (hab : a ≠ b) (la : M a c ≠ 0) (lb : M b c ≠ 0) : Eu n c A M' := by
  rcases h with h | ⟨P, X, h⟩
  · exact p.eu1 h hA
  · obtain ⟨P', q⟩ := p.eu2 h ha hb ca cb hab la lb
    exact .inr ⟨_, _, q⟩
/-- what falls -/
def colS (c : Nat) (M : Fn2) : Nat → Nat
  | 0 => 0
  | n + 1 => colS c M n + if c ≤ n then (M n c).natAbs else 0
theorem colS_le {c : Nat} {M M' : Fn2} : ∀ {n : Nat}, (∀ k, k < n → c ≤ k → (M' k c).natAbs ≤ (M k c).natAbs) → colS c M' n ≤ colS c M n
  | 0, _ => Nat.le_refl _
  | n + 1, h => by
    have h1 := colS_le (n := n) fun k hk hc => h k (by omega) hc
    show colS c M' n + _ ≤ colS c M n + _
    by_cases e : c ≤ n
    · rw [if_pos e, if_pos e]; have := h n (by omega) e; omega
    · rw [if_neg e, if_neg e]; omega
theorem colS_lt {c : Nat} {M M' : Fn2} : ∀ {n k0 : Nat}, k0 < n → c ≤ k0 → (∀ k, k < n → c ≤ k → (M' k c).natAbs ≤ (M k c).natAbs) → (M' k0 c).natAbs < (M k0 c).natAbs → colS c M' n < colS c M n
  | 0, _, h, _, _, _ => by omega
  | n + 1, k0, h0, hc0, h, hl => by
    show colS c M' n + _ < colS c M n + _
    by_cases q : k0 = n
    · subst q
      have h1 := colS_le (n := k0) fun k hk hc => h k (by omega) hc
      rw [if_pos hc0, if_pos hc0]; omega
    · have h1 := colS_lt (n := n) (k0 := k0) (by omega) hc0 (fun k hk hc => h k (by omega) hc) hl
      by_cases e : c ≤ n
      · rw [if_pos e, if_pos e]; have := h n (by omega) e; omega
      · rw [if_neg e, if_neg e]; omega
theorem Pass.falls (p : Pass n c M M' k1 t) {b : Nat} (hb : b < n) (cb : c ≤ b) (hne : b ≠ k1) (lb : M b c ≠ 0) : colS c M' n < colS c M n := by
  have all : ∀ k, k < n → c ≤ k → (M' k c).natAbs ≤ (M k c).natAbs := fun k hk hc => by
    by_cases e : k = k1
    · subst e; rw [p.lead (by have := p.cn; omega)]; exact Nat.le_refl _
    · by_cases z : M k c = 0
      · rw [p.rem hk hc e, z]; simp
      · rw [p.rem hk hc e]
        exact Nat.le_trans (Nat.le_of_lt (fmod_bound _ _ p.live).1) (p.least k hk hc z)
  refine colS_lt hb cb all ?_
  rw [p.rem hb cb hne]
  exact Nat.lt_of_lt_of_le (fmod_bound _ _ p.live).1 (p.least b hb cb lb)
/-- the other rows are cleared -/
theorem bd_clear {D : Nat} {t : Nat → Int} (h : Bd n M D) (h1 : k1 < n) (ht : ∀ k, k < n → (t k).natAbs ≤ D) (e : ∀ k, k < n → ∀ j, j < 2 * n → M' k j = M k j - t k * M k1 j) : Bd n M' (D + D * D) := fun k hk j hj => by
  rw [e k hk j hj]
  have h1 := h k hk j hj
  have h2 := h k1 (by assumption) j hj
  have h3 : (t k * M k1 j).natAbs ≤ D * D := by rw [Int.natAbs_mul]; exact Nat.mul_le_mul (ht k hk) h2
  omega
def exq : Nat → Nat
  | 0 => 2
  | c + 1 => 10 * exq c + 5
theorem bd_next {c : Nat} (h : Bd n M (4 * (2 ^ exq c) ^ 5 + 4 * (2 ^ exq c) ^ 5 * (4 * (2 ^ exq c) ^ 5))) : Bd n M (2 ^ exq (c + 1)) := fun k hk j hj => by
  refine Nat.le_trans (h k hk j hj) ?_
  have e : 2 ^ exq (c + 1) = 32 * (2 ^ (5 * exq c) * 2 ^ (5 * exq c)) := by
    show 2 ^ (10 * exq c + 5) = _
    rw [← Nat.pow_add, Nat.pow_add, show 5 * exq c + 5 * exq c = 10 * exq c by omega]
    omega
  rw [e, show (2 ^ exq c) ^ 5 = 2 ^ (5 * exq c) by rw [← Nat.pow_mul, Nat.mul_comm]]
  have hp : 0 < 2 ^ (5 * exq c) := Nat.pow_pos (by omega)
  generalize 2 ^ (5 * exq c) = z at *
  have h1 : z ≤ z * z := Nat.le_mul_of_pos_right _ hp
  have h2 : 4 * z * (4 * z) = 16 * (z * z) := by grind
  omega
end
end K80
/-! K80Mb -/
/-! K80Mb: bases as lists of rows; tables with a row of the identity behind each row. -/
namespace K80
theorem en_set {L : List (List Int)} {a k j : Nat} {r : List Int} (ha : a < L.length) : en (L.set a r) k j = if k = a then r.getD j 0 else en L k j := by
  unfold en
  by_cases h : k = a
  · subst h
    have : (L.set k r).getD k [] = r := by rw [List.getD_eq_getElem?_getD, List.getElem?_set_self ha]; rfl
    rw [if_pos rfl, this]
  · have : (L.set a r).getD k [] = L.getD k [] := by rw [List.getD_eq_getElem?_getD, List.getElem?_set_ne (fun e => h e.symm), ← List.getD_eq_getElem?_getD]
    rw [if_neg h, this]
theorem getD_map0 {f : Int → Int} {r : List Int} {j : Nat} (h : j < r.length) : (r.map f).getD j 0 = f (r.getD j 0) := by
  rw [List.getD_eq_getElem?_getD, List.getD_eq_getElem?_getD, List.getElem?_map, List.getElem?_eq_getElem h]; rfl
theorem getD_zip0 {f : Int × Int → Int} {r s : List Int} {j : Nat} (h : j < r.length) (k : j < s.length) : ((r.zip s).map f).getD j 0 = f (r.getD j 0, s.getD j 0) := by
  have : (r.zip s)[j]? = some (r[j], s[j]) := by rw [List.getElem?_zip_eq_some]; exact ⟨List.getElem?_eq_getElem h, List.getElem?_eq_getElem k⟩
  rw [List.getD_eq_getElem?_getD, List.getD_eq_getElem?_getD, List.getD_eq_getElem?_getD, List.getElem?_map, this, List.getElem?_eq_getElem h, List.getElem?_eq_getElem k]; rfl
theorem getD_mem0 {L : List (List Int)} {a : Nat} (h : a < L.length) : L.getD a [] ∈ L := by
  rw [List.getD_eq_getElem?_getD, List.getElem?_eq_getElem h]; exact List.getElem_mem h
theorem getD_some {α : Type} {L : List α} {a : Nat} {d r : α} (h : L[a]? = some r) : L.getD a d = r := by rw [List.getD_eq_getElem?_getD, h]; rfl
theorem mem_set_or {α : Type} {L : List α} {a : Nat} {r x : α} (h : x ∈ L.set a r) : x ∈ L ∨ x = r := List.mem_or_eq_of_mem_set h
structure Bas (n : Nat) (rows : List (List Int)) : Prop where
  n0 : 0 < n
  n4 : n ≤ 4
  len : rows.length = n
  row : ∀ r ∈ rows, r.length = n
  sm : ∀ r ∈ rows, ∀ x ∈ r, x.natAbs < 4
  uni : Uni n (en rows)
  inj : Inj n (en rows)
  det : detU n (en rows)
section
variable {n : Nat} {rows : List (List Int)}
theorem Bas.rowAt (b : Bas n rows) {a : Nat} (h : a < n) : (rows.getD a []).length = n := b.row _ (getD_mem0 (by rw [b.len]; exact h))
theorem Bas.neg (b : Bas n rows) {a : Nat} (h : a < n) : Bas n (rows.set a ((rows.getD a []).map fun x => 0 - x)) := by
  have hl := b.len
  have e : ∀ k, k < n → ∀ j, j < n → en (rows.set a ((rows.getD a []).map fun x => 0 - x)) k j = (if k = a then -1 else 1) * en rows k j := fun k hk j hj => by
    rw [en_set (by omega)]
    by_cases q : k = a
    · subst q
      rw [if_pos rfl, if_pos rfl, getD_map0 (by rw [b.rowAt hk]; exact hj)]
      unfold en; omega
    · rw [if_neg q, if_neg q]; omega
  have hs : ∀ k, k < n → (if k = a then (-1 : Int) else 1) * (if k = a then -1 else 1) = 1 := fun k _ => by by_cases q : k = a <;> simp [q]
  refine ⟨b.n0, b.n4, by rw [List.length_set]; exact hl, fun r hr => ?_, fun r hr x hx => ?_, b.uni.neg hs e, b.inj.neg hs e, ?_⟩
  · rcases mem_set_or hr with q | q
    · exact b.row r q
    · rw [q, List.length_map]; exact b.rowAt h
  · rcases mem_set_or hr with q | q
    · exact b.sm r q x hx
    · rw [q, List.mem_map] at hx
      obtain ⟨y, hy, rfl⟩ := hx
      have := b.sm _ (getD_mem0 (by omega)) y hy
      omega
  · have := det_neg (M := en rows) (M' := en (rows.set a ((rows.getD a []).map fun x => 0 - x))) b.n4 h fun k hk j hj => by
      rw [e k hk j hj]
      by_cases q : k = a
      · rw [if_pos q, if_pos q]; omega
      · rw [if_neg q, if_neg q]; omega
    unfold detU
    rw [this]
    have := b.det
    unfold detU at this
    omega
theorem Bas.add (b : Bas n rows) {a a2 : Nat} {c : Int} (h : a < n) (h2 : a2 < n) (hne : a ≠ a2) (hs : ∀ x ∈ ((rows.getD a []).zip (rows.getD a2 [])).map (fun p => p.1 + c * p.2), x.natAbs < 4) : Bas n (rows.set a (((rows.getD a []).zip (rows.getD a2 [])).map fun p => p.1 + c * p.2)) := by
  have hl := b.len
  have e : ∀ k, k < n → ∀ j, j < n → en (rows.set a (((rows.getD a []).zip (rows.getD a2 [])).map fun p => p.1 + c * p.2)) k j = en rows k j - (if k = a then -c else 0) * en rows a2 j := fun k hk j hj => by
    rw [en_set (by omega)]
    by_cases q : k = a
    · subst q
      rw [if_pos rfl, if_pos rfl, getD_zip0 (by rw [b.rowAt hk]; exact hj) (by rw [b.rowAt h2]; exact hj)]
      unfold en; grind
    · rw [if_neg q, if_neg q]; omega
  have t0 : (if a2 = a then -c else 0) = 0 := if_neg (Ne.symm hne)
  refine ⟨b.n0, b.n4, by rw [List.length_set]; exact hl, fun r hr => ?_, fun r hr x hx => ?_, b.uni.add (t := fun k => if k = a then -c else 0) h2 t0 e, b.inj.add (t := fun k => if k = a then -c else 0) h2 t0 e, ?_⟩
  · rcases mem_set_or hr with q | q
    · exact b.row r q
    · rw [q, List.length_map, List.length_zip, b.rowAt h, b.rowAt h2]; omega
  · rcases mem_set_or hr with q | q
    · exact b.sm r q x hx
    · rw [q] at hx; exact hs x hx
  · have := det_add (t := fun k => if k = a then -c else 0) b.n4 h2 t0 e
    unfold detU
    rw [this]
    exact b.det
theorem det_swap {M M' : Fn2} {a a2 : Nat} (hn : n ≤ 4) (ha : a < n) (hb : a2 < n) (hab : a ≠ a2) (e : ∀ k, k < n → ∀ j, j < n → M' k j = if k = a then M a2 j else if k = a2 then M a j else M k j) : detF n M' = - detF n M := by
  have u1 : detF n (fun k j => if k = a then M a j + M a2 j else M k j) = detF n M := det_add (k1 := a2) (t := fun k => if k = a then -1 else 0) hn hb (if_neg (Ne.symm hab)) fun k hk j hj => by
    by_cases h : k = a
    · subst h; simp <;> omega
    · simp [h]
  have u2 : detF n (fun k j => if k = a then M a j + M a2 j else if k = a2 then - M a j else M k j) = detF n fun k j => if k = a then M a j + M a2 j else M k j := det_add (k1 := a) (t := fun k => if k = a2 then 1 else 0) hn ha (if_neg hab) fun k hk j hj => by
    by_cases h : k = a
    · subst h; simp [hab]
    · by_cases h2 : k = a2
      · subst h2; simp [h] <;> omega
      · simp [h, h2]
  have u3 : detF n (fun k j => if k = a then M a2 j else if k = a2 then - M a j else M k j) = detF n fun k j => if k = a then M a j + M a2 j else if k = a2 then - M a j else M k j := det_add (k1 := a2) (t := fun k => if k = a then -1 else 0) hn hb (if_neg (Ne.symm hab)) fun k hk j hj => by
    by_cases h : k = a
    · subst h; simp [Ne.symm hab] <;> omega
    · by_cases h2 : k = a2
      · subst h2; simp [h]
      · simp [h, h2]
  rw [det_neg (M := fun k j => if k = a then M a2 j else if k = a2 then - M a j else M k j) hn hb fun k hk j hj => ?_, u3, u2, u1]
  rw [e k hk j hj]
  by_cases h : k = a
  · subst h; simp [hab]
  · by_cases h2 : k = a2
    · subst h2; simp [h]
    · simp [h, h2]
theorem Bas.swap (b : Bas n rows) {a a2 : Nat} (h : a < n) (h2 : a2 < n) (hne : a ≠ a2) : Bas n ((rows.set a (rows.getD a2 [])).set a2 (rows.getD a [])) := by
  have hl := b.len
  have e : ∀ k, k < n → ∀ j, j < n → en ((rows.set a (rows.getD a2 [])).set a2 (rows.getD a [])) k j = if k = a then en rows a2 j else if k = a2 then en rows a j else en rows k j := fun k hk j hj => by
    rw [en_set (by rw [List.length_set]; omega), en_set (by omega)]
    by_cases q : k = a
    · subst q; rw [if_neg hne, if_pos rfl, if_pos rfl]; rfl
    · by_cases q2 : k = a2
      · subst q2; rw [if_pos rfl, if_neg q, if_pos rfl]; rfl
      · rw [if_neg q2, if_neg q, if_neg q, if_neg q2]
  have mm : ∀ r ∈ (rows.set a (rows.getD a2 [])).set a2 (rows.getD a []), r ∈ rows := fun r hr => by
    rcases mem_set_or hr with q | q
    · rcases mem_set_or q with q | q
      · exact q
      · rw [q]; exact getD_mem0 (by omega)
    · rw [q]; exact getD_mem0 (by omega)
  refine ⟨b.n0, b.n4, by rw [List.length_set, List.length_set]; exact hl, fun r hr => b.row r (mm r hr), fun r hr => b.sm r (mm r hr), ?_, b.inj.swap h h2 hne e, ?_⟩
  · refine b.uni.perm (s := fun k => if k = a then a2 else if k = a2 then a else k) (fun k hk => ?_) (fun k hk => ?_) fun k hk j hj => ?_
    · split
      · exact h2
      · split
        · exact h
        · exact hk
    · by_cases q : k = a
      · subst q; simp [Ne.symm hne]
      · by_cases q2 : k = a2
        · subst q2; simp [q]
        · simp [q, q2]
    · rw [e k hk j hj]
      by_cases q : k = a
      · simp [q]
      · by_cases q2 : k = a2
        · subst q2; simp [q]
        · simp [q, q2]
  · unfold detU
    rw [det_swap b.n4 h h2 hne e]
    have := b.det
    unfold detU at this
    omega
end
end K80
/-! K80Sp -/
namespace K80
open PySem PySem.Spec PyProof.Rows L2 L3
/-! ### the bag -/
/-- only the object at a may be another -/
def Ch (a : Addr) (μ μ' : Mu) : Prop := ∀ b, b ≠ a → μ' b = μ b
theorem Ch.refl (a : Addr) (μ : Mu) : Ch a μ μ := fun _ _ => rfl
theorem Ch.trans {a : Addr} {μ μ1 μ2 : Mu} (h : Ch a μ μ1) (k : Ch a μ1 μ2) : Ch a μ μ2 := fun b hb => (k b hb).trans (h b hb)
theorem Ch.set {a : Addr} {μ : Mu} {o : MO} : Ch a μ (mset μ a o) := fun b hb => mset_ne hb
def bagO (cells : List Int) (i big seed cnt : Int) : MO := .lst [.lst (cells.map .int), .int i, .int big, .int seed, .int cnt]
structure BagIn (cells : List Int) (i big seed cnt : Int) : Prop where
  few : cells.length ≤ 63
  i0 : 0 ≤ i
  big0 : 0 ≤ big
  s0 : 0 ≤ seed
  s1 : seed < 2147483648
def BagAt (μ : Mu) (a : Addr) : Prop := ∃ cells i big seed cnt, μ a = some (bagO cells i big seed cnt) ∧ BagIn cells i big seed cnt
/-- the script's cells, as they stand -/
def sp__law_bag (K : PySem.W.Frag) : SpD := fun ds μ P => ∃ cells : List Int, ds = [.fz (cells.map .int)] ∧ ∀ a μ', μ a = none → (∀ b, b ≠ a → μ' b = μ b) → BagAt μ' a → P (.own a) μ'
def sp__law_draw (K : PySem.W.Frag) : SpD := fun ds μ P => ∃ (a : Addr) (n : Int), ds = [.own a, .int n] ∧ BagAt μ a ∧ 0 < n ∧ n < 1000000 ∧ ∀ r μ', Ch a μ μ' → BagAt μ' a → 0 ≤ r → r < n → P (.int r) μ'
/-- of a list | a text -/
def sp__law_of (K : PySem.W.Frag) : SpD := fun ds μ P => ∃ a things, ds = [.own a, things] ∧ BagAt μ a ∧ ((∃ xs : List D, things = .lst xs ∧ 0 < xs.length ∧ xs.length < 100000 ∧ ∀ x μ', x ∈ xs → Ch a μ μ' → BagAt μ' a → P x μ') ∨
  (∃ s : Str, things = .str s ∧ 0 < s.length ∧ s.length < 100000 ∧ ∀ c μ', c ∈ s.cps.toList → Ch a μ μ' → BagAt μ' a → P (.str ⟨#[c]⟩) μ'))
/-- n of the things, drawn: a list that may change -/
def sp__law_pick (K : PySem.W.Frag) : SpD := fun ds μ P => ∃ (a : Addr) (xs : List D) (n : Int), ds = [.own a, .lst xs, .int n] ∧ BagAt μ a ∧ 0 ≤ n ∧ n ≤ 1000 ∧ xs.length ≤ 1000 ∧
  ∀ p ys μ' rest, (ys ++ rest).Perm xs → ys.length = min n.toNat xs.length → p ≠ a → μ p = none → μ' p = some (.lst ys) → (∀ b, b ≠ a → b ≠ p → μ' b = μ b) → BagAt μ' a → P (.own p) μ'
def unitR (deep k : Nat) : List Int := (List.range deep).map fun i => if i = k then 1 else 0
def units (deep : Nat) : List (List Int) := (List.range deep).map fun k => unitR deep k
def sp__law_units (K : PySem.W.Frag) : SpD := fun ds μ P => ∃ deep : Nat, ds = [.int deep] ∧ deep ≤ 100 ∧ P (.lst ((units deep).map tI)) μ
def sp_unit_rows (K : PySem.W.Frag) : SpD := sp__law_units K
/-- a row: plain or not -/
structure RowIn (deep : Nat) (r : List Int) : Prop where
  len : r.length = deep
  lo : ∀ x ∈ r, -2 ≤ x
  hi : ∀ x ∈ r, x ≤ 3
def sp__law_row (K : PySem.W.Frag) : SpD := fun ds μ P => ∃ (a : Addr) (deep : Nat) (pl : Bool), ds = [.own a, .int deep, .bl pl] ∧ BagAt μ a ∧ 0 < deep ∧ deep ≤ 100 ∧ ∀ r μ', RowIn deep r → Ch a μ μ' → BagAt μ' a → P (tI r) μ'
/-- the matrices, before their names -/
def mat (m : List (List Int)) : D := .lst (m.map tI)
structure MatsIn (deep wide : Nat) (ms : List (List (List Int))) : Prop where
  len : ms.length = wide
  few : ∀ m ∈ ms, m.length ≤ 3
  row : ∀ m ∈ ms, ∀ r ∈ m, RowIn deep r
def sp__law_matrices (K : PySem.W.Frag) : SpD := fun ds μ P => ∃ (a : Addr) (deep wide : Nat) (pl : Bool), ds = [.own a, .int deep, .int wide, .bl pl] ∧ BagAt μ a ∧ 0 < deep ∧ deep ≤ 100 ∧ wide ≤ 100 ∧ ∀ ms μ', MatsIn deep wide ms → Ch a μ μ' → BagAt μ' a → P (.lst (ms.map mat)) μ'
/-! ### names -/
def isCap (c : Nat) : Prop := 65 ≤ c ∧ c ≤ 90
def isLow (c : Nat) : Prop := 97 ≤ c ∧ c ≤ 122
def isDig (c : Nat) : Prop := 48 ≤ c ∧ c ≤ 57
structure Word (P : Nat → Prop) (n : Nat) (s : Str) : Prop where
  ex : ∃ c l, s.cps.toList = c :: l ∧ P c ∧ (∀ x ∈ l, P x ∨ isDig x) ∧ l.length < n
abbrev ArrOk (s : Str) : Prop := Word isCap 8 s
structure CtrOk (s : Str) : Prop where
  w : Word isLow 6 s
  nk : s ∉ kept
structure CtrsOk (deep : Nat) (names : List Str) : Prop where
  len : names.length = deep
  ok : ∀ s ∈ names, CtrOk s
  nd : names.Nodup
def sp__law_array (K : PySem.W.Frag) : SpD := fun ds μ P => ∃ a : Addr, ds = [.own a] ∧ BagAt μ a ∧ ∀ s μ', ArrOk s → Ch a μ μ' → BagAt μ' a → P (.str s) μ'
def sp__law_names (K : PySem.W.Frag) : SpD := fun ds μ P => ∃ (a : Addr) (deep : Nat), ds = [.own a, .int deep] ∧ deep ≤ 4 ∧ BagAt μ a ∧ ∀ names μ', CtrsOk deep names → Ch a μ μ' → BagAt μ' a → P (.lst (names.map .str)) μ'
/-! ### nests -/
abbrev SubT := List Int × Int
abbrev TouchT := Str × List SubT
abbrev NestT := List Str × List TouchT
def encS (s : SubT) : D := .tup [tI s.1, .int s.2]
def encT (t : TouchT) : D := .tup [.str t.1, .lst (t.2.map encS)]
def encN (n : NestT) : D := .tup [.lst (n.1.map .str), .lst (n.2.map encT)]
def offs : List Int := [0, 1, 0, -1, 0, 5, -12, 9999]
structure TouchOk (deep : Nat) (t : TouchT) : Prop where
  nm : ArrOk t.1
  few : t.2.length ≤ 3
  row : ∀ s ∈ t.2, RowIn deep s.1
  off : ∀ s ∈ t.2, s.2 ∈ offs
structure TouchesOk (deep wide : Nat) (ts : List TouchT) : Prop where
  len : ts.length = wide
  ok : ∀ t ∈ ts, TouchOk deep t
  same : ∀ t ∈ ts, ∀ u ∈ ts, t.1 = u.1 → t.2.length = u.2.length
def sp__law_dressed (K : PySem.W.Frag) : SpD := fun ds μ P => ∃ (a : Addr) (deep wide : Nat) (ms : List (List (List Int))), ds = [.own a, .lst (ms.map mat)] ∧ MatsIn deep wide ms ∧ wide ≤ 4 ∧ BagAt μ a ∧ ∀ ts μ', TouchesOk deep wide ts → Ch a μ μ' → BagAt μ' a → P (.lst (ts.map encT)) μ'
structure NestOk (deep wide : Nat) (n : NestT) : Prop where
  ctrs : CtrsOk deep n.1
  tchs : TouchesOk deep wide n.2
def sp__law_nest (K : PySem.W.Frag) : SpD := fun ds μ P => ∃ (a : Addr) (deep wide : Nat) (ms : List (List (List Int))), ds = [.own a, .lst (ms.map mat), .int deep] ∧ MatsIn deep wide ms ∧ wide ≤ 4 ∧ deep ≤ 4 ∧ BagAt μ a ∧ ∀ n μ', NestOk deep wide n → Ch a μ μ' → BagAt μ' a → P (encN n) μ'
/-! ### what a nest's making looks at -/
def sp_is_counter_name (K : PySem.W.Frag) : SpD := fun ds μ P => ∃ s, ds = [.str s] ∧ CtrOk s ∧ P (.bl true) μ
def sp_is_array_name (K : PySem.W.Frag) : SpD := fun ds μ P => ∃ s, ds = [.str s] ∧ ArrOk s ∧ P (.bl true) μ
def sp_counters_fault (K : PySem.W.Frag) : SpD := fun ds μ P => ∃ deep names, ds = [.lst (names.map .str)] ∧ CtrsOk deep names ∧ 0 < deep ∧ deep ≤ 10 ∧ P (.str ("" : Str)) μ
def sp_look_at_counters (K : PySem.W.Frag) : SpD := fun ds μ P => ∃ deep names, ds = [.lst (names.map .str)] ∧ CtrsOk deep names ∧ 0 < deep ∧ deep ≤ 10 ∧ P .non μ
def smallI (i : Int) : Prop := i.natAbs < 1000000
structure TGood (deep : Nat) (t : TouchT) : Prop where
  nm : ArrOk t.1
  few : t.2.length ≤ 10
  row : ∀ s ∈ t.2, s.1.length = deep ∧ (∀ x ∈ s.1, smallI x) ∧ smallI s.2
/-- what the making of a nest asks for -/
structure TsGood (deep : Nat) (ts : List TouchT) : Prop where
  ne : ts ≠ []
  few : ts.length ≤ 20
  ok : ∀ t ∈ ts, TGood deep t
  same : ∀ t ∈ ts, ∀ u ∈ ts, t.1 = u.1 → t.2.length = u.2.length
structure NGood (deep : Nat) (n : NestT) : Prop where
  ctrs : CtrsOk deep n.1
  d0 : 0 < deep
  dl : deep ≤ 10
  tchs : TsGood deep n.2
def sp_look_at_touches (K : PySem.W.Frag) : SpD := fun ds μ P => ∃ (deep : Nat) (ts : List TouchT), ds = [.int deep, .lst (ts.map encT)] ∧ TsGood deep ts ∧ P .non μ
/-! ### texts -/
def intT (i : Int) : Str := toString i
def sp_integer_text (K : PySem.W.Frag) : SpD := fun ds μ P => ∃ i : Int, ds = [.int i] ∧ smallI i ∧ P (.str (intT i)) μ
/-- m times the counter's name, behind its sign -/
def termW (name : Str) (m : Int) : List Str := if m = 0 then [] else [if m > 0 then "+" else "-", if m.natAbs = 1 then name else intT m.natAbs ++ "*" ++ name]
def offW (o : Int) : List Str := if o = 0 then [] else [if o > 0 then "+" else "-", intT o.natAbs]
def rowW (names : List Str) (r : List Int) : List Str := (names.zip r).flatMap fun p => termW p.1 p.2
def subW (names : List Str) (s : SubT) : List Str := rowW names s.1 ++ offW s.2
def subTxt (names : List Str) (s : SubT) : Str := match subW names s with
  | [] => "0"
  | w :: ws => if w = "+" then Txt.join " " ws else Txt.join " " (w :: ws)
def sp_subscript_text (K : PySem.W.Frag) : SpD := fun ds μ P => ∃ (deep : Nat) (names : List Str) (s : SubT), ds = [.lst (names.map .str), tI s.1, .int s.2] ∧ CtrsOk deep names ∧ deep ≤ 10 ∧ s.1.length = deep ∧ (∀ x ∈ s.1, smallI x) ∧ smallI s.2 ∧ P (.str (subTxt names s)) μ
def touchTxt (names : List Str) (t : TouchT) : Str := if t.2 = [] then "touch " ++ t.1 ++ " :" else "touch " ++ t.1 ++ " : " ++ Txt.join " , " (t.2.map (subTxt names))
/-- the sizes that a nest's text needs -/
structure SmallT (deep : Nat) (t : TouchT) : Prop where
  nm : t.1.length ≤ 10
  few : t.2.length ≤ 10
  row : ∀ s ∈ t.2, s.1.length = deep ∧ (∀ x ∈ s.1, smallI x) ∧ smallI s.2
def sp_touch_text (K : PySem.W.Frag) : SpD := fun ds μ P => ∃ (deep : Nat) (names : List Str) (t : TouchT), ds = [.lst (names.map .str), .str t.1, .lst (t.2.map encS)] ∧ CtrsOk deep names ∧ deep ≤ 10 ∧ SmallT deep t ∧ P (.str (touchTxt names t)) μ
def nestLines (n : NestT) : List Str := ([("nest" : Str), "for " ++ Txt.join " " n.1] : List Str) ++ n.2.map (touchTxt n.1) ++ [("done" : Str)]
def nestTxt (n : NestT) : Str := Txt.join "" ((nestLines n).map fun l => l ++ "\n")
structure SmallN (deep : Nat) (n : NestT) : Prop where
  ctrs : CtrsOk deep n.1
  dl : deep ≤ 10
  few : n.2.length ≤ 20
  tch : ∀ t ∈ n.2, SmallT deep t
def sp_nest_text (K : PySem.W.Frag) : SpD := fun ds μ P => ∃ (deep : Nat) (n : NestT), ds = [.lst (n.1.map .str), .lst (n.2.map encT)] ∧ SmallN deep n ∧ P (.str (nestTxt n)) μ
/-- the object -/
def nestF (n : NestT) : List (Str × D) := [("_counters", .lst (n.1.map .str)), ("_touches", .lst (n.2.map encT)), ("deep", .int n.1.length), ("wide", .int n.2.length), ("text", .str (nestTxt n))]
def nestI (K : PySem.W.Frag) (n : NestT) : D := .ins (aNest K) (nestF n)
def sp_Nest_init (K : PySem.W.Frag) : SpD := fun ds μ P => ∃ (a : Addr) (deep : Nat) (n : NestT), ds = [.own a, .lst (n.1.map .str), .lst (n.2.map encT)] ∧ NGood deep n ∧ μ a = some (.ins (aNest K) []) ∧ P .non (mset μ a (.ins (aNest K) (nestF n)))
def sp__law_copied (K : PySem.W.Frag) : SpD := fun ds μ P => ∃ (deep : Nat) (n : NestT), ds = [encN n] ∧ NGood deep n ∧ P (nestI K n) μ
/-- one == other: their texts -/
def sp_Nest_eq (K : PySem.W.Frag) : SpD := fun ds μ P => ∃ n m : NestT, ds = [nestI K n, nestI K m] ∧ P (.bl (decide (nestTxt n = nestTxt m))) μ
/-! ### rows of numbers -/
def homeI (place sides : List Int) : List Int := (place.zip sides).map fun p => p.1.fdiv p.2
def sp__law_home (K : PySem.W.Frag) : SpD := fun ds μ P => ∃ place sides : List Int, ds = [tI place, .lst (sides.map .int)] ∧ place.length ≤ 100 ∧ (∀ s ∈ sides, CDivX 0 s) ∧ P (tI (homeI place sides)) μ
def dotI (xs ys : List Int) : Int := ((xs.zip ys).map fun p => p.1 * p.2).sum
def sp_dot (K : PySem.W.Frag) : SpD := fun ds μ P => ∃ xs ys : List Int, ds = [tI xs, tI ys] ∧ xs.length ≤ 100 ∧ (∀ p ∈ xs.zip ys, CMulX p.1 p.2) ∧ P (.int (dotI xs ys)) μ
def movedI (row step : List Int) (t : Int) : List Int := (row.zip step).map fun p => p.1 + t * p.2
def sp_moved (K : PySem.W.Frag) : SpD := fun ds μ P => ∃ (row step : List Int) (t : Int), ds = [tI row, tI step, .int t] ∧ row.length ≤ 100 ∧ (∀ x ∈ step, CMulX t x) ∧ P (tI (movedI row step t)) μ
/-! ### points, bases -/
structure PtsOk (deep : Nat) (pts : List (List Int)) : Prop where
  len : ∀ p ∈ pts, p.length = deep
  sm : ∀ p ∈ pts, ∀ x ∈ p, x.natAbs ≤ 4
  few : pts.length ≤ 60
  sd : pts.Pairwise fun a b => ltL a b = true
def sp__law_points (K : PySem.W.Frag) : SpD := fun ds μ P => ∃ (a : Addr) (deep many : Nat), ds = [.own a, .int deep, .int many] ∧ BagAt μ a ∧ 0 < deep ∧ deep ≤ 4 ∧ many ≤ 60 ∧ ∀ pts μ', PtsOk deep pts → Ch a μ μ' → BagAt μ' a → P (.lst (pts.map tI)) μ'
def sp__law_basis (K : PySem.W.Frag) : SpD := fun ds μ P => ∃ (a : Addr) (deep steps : Nat), ds = [.own a, .int deep, .int steps] ∧ BagAt μ a ∧ 0 < deep ∧ deep ≤ 4 ∧ steps ≤ 100 ∧ ∀ rows μ', Bas deep rows → Ch a μ μ' → BagAt μ' a → P (.lst (rows.map tI)) μ'
structure IsInv (n : Nat) (rows inv : List (List Int)) : Prop where
  len : inv.length = n
  row : ∀ r ∈ inv, r.length = n
  eq : ∀ k, k < n → ∀ j, j < n → (sumN n fun i => en inv k i * en rows i j) = dl k j
def lI (l : List Int) : D := .lst (l.map .int)
def sp__law_undone (K : PySem.W.Frag) : SpD := fun ds μ P => ∃ (n : Nat) (rows : List (List Int)), ds = [.lst (rows.map tI)] ∧ Bas n rows ∧ ∀ inv, IsInv n rows inv → P (.lst (inv.map lI)) μ
def placeI (inv : List (List Int)) (x : List Int) : List Int := (List.range inv.length).map fun a => ((x.zip inv).map fun p => p.1 * p.2.getD a 0).sum
/-- a table with rows as long as itself, a point, sides -/
structure Sq (n : Nat) (inv : List (List Int)) : Prop where
  len : inv.length = n
  row : ∀ r ∈ inv, r.length = n
structure PtOk (n : Nat) (x : List Int) : Prop where
  len : x.length = n
  sm : ∀ y ∈ x, y.natAbs ≤ 4
structure SidesOk (n : Nat) (sides : List Int) : Prop where
  len : sides.length = n
  lo : ∀ s ∈ sides, 1 ≤ s
  hi : ∀ s ∈ sides, s ≤ 20
def sp__law_place (K : PySem.W.Frag) : SpD := fun ds μ P => ∃ (n : Nat) (inv : List (List Int)) (x : List Int), ds = [.lst (inv.map lI), tI x] ∧ n ≤ 4 ∧ Sq n inv ∧ PtOk n x ∧ P (tI (placeI inv x)) μ
def tripsOf (inv : List (List Int)) (sides : List Int) (pts : List (List Int)) : List Trip := pts.map fun x => (homeI (placeI inv x) sides, placeI inv x, x)
def homesOf (ts : List Trip) : List RowI := ts.foldl (fun hs t => if t.1 ∈ hs then hs else hs ++ [t.1]) []
def lawParts (inv : List (List Int)) (sides : List Int) (pts : List (List Int)) : List (RowI × List RowI) := partsOf (homesOf (tripsOf inv sides pts)) (tripsOf inv sides pts)
def encG (g : RowI × List RowI) : D := .tup [tI g.1, .lst (g.2.map tI)]
def sp__law_parts (K : PySem.W.Frag) : SpD := fun ds μ P => ∃ (n : Nat) (inv : List (List Int)) (sides : List Int) (pts : List (List Int)), ds = [.lst (inv.map lI), .lst (sides.map .int), .lst (pts.map tI)] ∧ 0 < n ∧ n ≤ 4 ∧ Sq n inv ∧ SidesOk n sides ∧ pts.length ≤ 60 ∧ (∀ x ∈ pts, PtOk n x) ∧ P (.lst ((lawParts inv sides pts).map encG)) μ
def sp__law_other (K : PySem.W.Frag) : SpD := fun ds μ P => ∃ (a : Addr) (deep wide : Nat) (n : NestT), ds = [.own a, encN n] ∧ BagAt μ a ∧ NestOk deep wide n ∧ 0 < deep ∧ deep ≤ 4 ∧ 0 < wide ∧ wide ≤ 4 ∧ ∀ m μ', NGood deep m → nestTxt m ≠ nestTxt n → Ch a μ μ' → BagAt μ' a → P (encN m) μ'
/-! ### lots -/
def rowTxt (r : List Int) : Str := Txt.join " " (r.map intT)
def rowsTxt (pts : List (List Int)) : Str := if pts = [] then "none" else Txt.join " , " (pts.map rowTxt)
def sp_row_text (K : PySem.W.Frag) : SpD := fun ds μ P => ∃ r : List Int, ds = [tI r] ∧ r.length ≤ 10 ∧ (∀ x ∈ r, smallI x) ∧ P (.str (rowTxt r)) μ
def sp_rows_text (K : PySem.W.Frag) : SpD := fun ds μ P => ∃ pts : List (List Int), ds = [.lst (pts.map tI)] ∧ pts.length ≤ 100 ∧ (∀ r ∈ pts, r.length ≤ 10 ∧ ∀ x ∈ r, smallI x) ∧ P (.str (rowsTxt pts)) μ
def lotF (K : PySem.W.Frag) (n : NestT) (pts : List (List Int)) : List (Str × D) := [("nest", nestI K n), ("_points", .lst (pts.map tI)), ("_known", .dT (pts.map fun p => (kI p, D.bl true))), ("text", .str (rowsTxt pts))]
def lotI (K : PySem.W.Frag) (n : NestT) (pts : List (List Int)) : D := .ins (aLot K) (lotF K n pts)
/-- the points of a lot -/
structure LotOk (deep : Nat) (pts : List (List Int)) : Prop where
  pt : ∀ p ∈ pts, PtOk deep p
  few : pts.length ≤ 63
  sd : pts.Pairwise fun a b => ltL a b = true
def ListAt (μ : Mu) (d : D) (xs : List D) : Prop := d = .lst xs ∨ ∃ p, d = .own p ∧ μ p = some (.lst xs)
def sp_Lot_init (K : PySem.W.Frag) : SpD := fun ds μ P => ∃ (a : Addr) (deep : Nat) (n : NestT) (d : D) (given : List (List Int)), ds = [.own a, nestI K n, d] ∧ ListAt μ d (given.map tI) ∧ n.1.length = deep ∧ 0 < deep ∧ deep ≤ 4 ∧ given.length ≤ 63 ∧ (∀ x ∈ given, PtOk deep x) ∧ μ a = some (.ins (aLot K) []) ∧
  ∀ pts, LotOk deep pts → (∀ x, x ∈ pts ↔ x ∈ given) → P .non (mset μ a (.ins (aLot K) (lotF K n pts)))
def sp_Lot_points (K : PySem.W.Frag) : SpD := fun ds μ P => ∃ (n : NestT) (pts : List (List Int)), ds = [lotI K n pts] ∧ pts.length ≤ 100 ∧ P (.lst (pts.map tI)) μ
def sp_look_alike (K : PySem.W.Frag) : SpD := fun ds μ P => ∃ (n m : NestT) (pts qs : List (List Int)), ds = [lotI K n pts, lotI K m qs] ∧ nestTxt n = nestTxt m ∧ P .non μ
def sp_Lot_sub (K : PySem.W.Frag) : SpD := fun ds μ P => ∃ (deep : Nat) (n m : NestT) (pts qs : List (List Int)), ds = [lotI K n pts, lotI K m qs] ∧ nestTxt n = nestTxt m ∧ n.1.length = deep ∧ 0 < deep ∧ deep ≤ 4 ∧ LotOk deep pts ∧ LotOk deep qs ∧ P (lotI K n (pts.filter fun x => x ∉ qs)) μ
def sp_Lot_and (K : PySem.W.Frag) : SpD := fun ds μ P => ∃ (deep : Nat) (n m : NestT) (pts qs : List (List Int)), ds = [lotI K n pts, lotI K m qs] ∧ nestTxt n = nestTxt m ∧ n.1.length = deep ∧ 0 < deep ∧ deep ≤ 4 ∧ LotOk deep pts ∧ LotOk deep qs ∧ P (lotI K n (pts.filter fun x => x ∈ qs)) μ
/-! ### blocks -/
def sp_determinant (K : PySem.W.Frag) : SpD := fun ds μ P => ∃ (n : Nat) (rows : List (List Int)), ds = [.lst (rows.map tI)] ∧ Bas n rows ∧ P (.int 1) μ
def sp_is_basis (K : PySem.W.Frag) : SpD := fun ds μ P => ∃ (n : Nat) (rows : List (List Int)), ds = [.int n, .lst (rows.map tI)] ∧ Bas n rows ∧ P (.bl true) μ
def sp_check_sides (K : PySem.W.Frag) : SpD := fun ds μ P => ∃ (n : Nat) (sides : List Int), ds = [.int n, .lst (sides.map .int), .int 1] ∧ n ≤ 4 ∧ SidesOk n sides ∧ P .non μ
/-- a table with a row of the identity behind each row, c columns done -/
structure Tab (n : Nat) (B : List (List Int)) (c : Nat) (L : List (List Int)) : Prop where
  n4 : n ≤ 4
  cn : c ≤ n
  len : L.length = n
  row : ∀ r ∈ L, r.length = 2 * n
  good : GoodF n (en B) c (en L)
  bd : Bd n (en L) (2 ^ exq c)
def swapL (L : List (List Int)) (a b : Nat) : List (List Int) := (L.set a (L.getD b [])).set b (L.getD a [])
structure Least (n c : Nat) (M : Fn2) (k1 : Nat) : Prop where
  kn : k1 < n
  ck : c ≤ k1
  live : M k1 c ≠ 0
  least : ∀ k, k < n → c ≤ k → M k c ≠ 0 → (M k1 c).natAbs ≤ (M k c).natAbs
def sp_bring_least (K : PySem.W.Frag) : SpD := fun ds μ P => ∃ (p : Addr) (n c : Nat) (L : List (List Int)), ds = [.own p, .int c] ∧ μ p = some (.lst (L.map tI)) ∧ n ≤ 4 ∧ c < n ∧ L.length = n ∧ (∀ r ∈ L, c < r.length) ∧ (∃ k, k < n ∧ c ≤ k ∧ en L k c ≠ 0) ∧ ∀ k1, Least n c (en L) k1 → P .non (mset μ p (.lst ((swapL L c k1).map tI)))
def sp_settle (K : PySem.W.Frag) : SpD := fun ds μ P => ∃ (p : Addr) (n c : Nat) (B L : List (List Int)), ds = [.own p, .int c] ∧ μ p = some (.lst (L.map tI)) ∧ c < n ∧ Tab n B c L ∧ ∀ L', Tab n B (c + 1) L' → P .non (mset μ p (.lst (L'.map tI)))
def dualsOf (inv : List (List Int)) : List (List Int) := (List.range inv.length).map fun a => inv.map fun r => r.getD a 0
def sp_dual_rows (K : PySem.W.Frag) : SpD := fun ds μ P => ∃ (n : Nat) (rows : List (List Int)), ds = [.lst (rows.map tI)] ∧ Bas n rows ∧ ∀ inv, IsInv n rows inv → P (.lst ((dualsOf inv).map tI)) μ
def blockF (K : PySem.W.Frag) (n : NestT) (rows : List (List Int)) (sides : List Int) (inv : List (List Int)) : List (Str × D) := [("nest", nestI K n), ("size", .int (sides.foldl (· * ·) 1)), ("_basis", .lst (rows.map tI)), ("_sides", .lst (sides.map .int)), ("_duals", .lst ((dualsOf inv).map tI))]
def blockI (K : PySem.W.Frag) (n : NestT) (rows : List (List Int)) (sides : List Int) (inv : List (List Int)) : D := .ins (aBlock K) (blockF K n rows sides inv)
def sp_Block_init (K : PySem.W.Frag) : SpD := fun ds μ P => ∃ (a : Addr) (deep : Nat) (n : NestT) (rows : List (List Int)) (sides : List Int), ds = [.own a, nestI K n, .lst (rows.map tI), .lst (sides.map .int)] ∧ n.1.length = deep ∧ Bas deep rows ∧ SidesOk deep sides ∧ μ a = some (.ins (aBlock K) []) ∧
  ∀ inv, IsInv deep rows inv → P .non (mset μ a (.ins (aBlock K) (blockF K n rows sides inv)))
def sp_Block_sides (K : PySem.W.Frag) : SpD := fun ds μ P => ∃ (n : NestT) (rows : List (List Int)) (sides : List Int) (inv : List (List Int)), ds = [blockI K n rows sides inv] ∧ sides.length ≤ 10 ∧ P (.lst (sides.map .int)) μ
def sp_Block_place (K : PySem.W.Frag) : SpD := fun ds μ P => ∃ (deep : Nat) (n : NestT) (rows : List (List Int)) (sides : List Int) (inv : List (List Int)) (x : List Int), ds = [blockI K n rows sides inv, tI x] ∧ n.1.length = deep ∧ deep ≤ 4 ∧ Sq deep inv ∧ PtOk deep x ∧ P (tI (placeI inv x)) μ
def sp_Block_home (K : PySem.W.Frag) : SpD := fun ds μ P => ∃ (deep : Nat) (n : NestT) (rows : List (List Int)) (sides : List Int) (inv : List (List Int)) (x : List Int), ds = [blockI K n rows sides inv, tI x] ∧ n.1.length = deep ∧ deep ≤ 4 ∧ Sq deep inv ∧ SidesOk deep sides ∧ PtOk deep x ∧ P (tI (homeI (placeI inv x) sides)) μ
/-! ### parts -/
/-- a list that may change, of pairs of a home and a list that may change -/
def ToldAt (μ : Mu) (p : Addr) (qs : List Addr) (gs : List (RowI × List RowI)) : Prop := μ p = some (.lst (List.zipWith (fun g q => D.tup [tI g.1, .own q]) gs qs)) ∧ qs.length = gs.length ∧ ∀ (i : Nat) g q, gs[i]? = some g → qs[i]? = some q → μ q = some (.lst (g.2.map tI))
structure Told (μ μ' : Mu) (p : Addr) (qs : List Addr) (gs : List (RowI × List RowI)) : Prop where
  at_ : ToldAt μ' p qs gs
  nd : (p :: qs).Nodup
  new : ∀ q ∈ p :: qs, μ q = none
  old : ∀ b, b ∉ p :: qs → μ' b = μ b
def sp_parts (K : PySem.W.Frag) : SpD := fun ds μ P => ∃ (deep : Nat) (n m : NestT) (rows : List (List Int)) (sides : List Int) (inv pts : List (List Int)), ds = [lotI K n pts, blockI K m rows sides inv] ∧ nestTxt n = nestTxt m ∧ m.1.length = deep ∧ 0 < deep ∧ deep ≤ 4 ∧ Sq deep inv ∧ SidesOk deep sides ∧ LotOk deep pts ∧
  ∀ p qs μ', Told μ μ' p qs (lawParts inv sides pts) → P (.own p) μ'
def sp__law_places_told (K : PySem.W.Frag) : SpD := fun ds μ P => ∃ (deep : Nat) (n : NestT) (rows : List (List Int)) (sides : List Int) (inv : List (List Int)) (gs : List (RowI × List RowI)), ds = [blockI K n rows sides inv, .lst (gs.map encG), .lst (inv.map lI)] ∧ n.1.length = deep ∧ deep ≤ 4 ∧ Sq deep inv ∧ SidesOk deep sides ∧ gs.length ≤ 100 ∧ (∀ g ∈ gs, g.2.length ≤ 100 ∧ ∀ x ∈ g.2, PtOk deep x ∧ homeI (placeI inv x) sides = g.1) ∧ P (.bl true) μ
/-- what a value says, changing lists read as they stand; n levels deep -/
inductive Deep (μ : Mu) : Nat → D → PyData → Prop
  | non {n : Nat} : Deep μ n .non .none
  | bl {n : Nat} (b : Bool) : Deep μ n (.bl b) (.bool b)
  | int {n : Nat} (i : Int) : Deep μ n (.int i) (.int i)
  | str {n : Nat} (s : Str) : Deep μ n (.str s) (.str s)
  | lst {n : Nat} {ds : List D} {ps : List PyData} (hl : ds.length = ps.length) (hz : ds.length ≤ 1000) (h : ∀ (i : Nat) d p, ds[i]? = some d → ps[i]? = some p → Deep μ n d p) : Deep μ (n + 1) (.lst ds) (.list ps)
  | own {n : Nat} {a : Addr} {ds : List D} {ps : List PyData} (e : μ a = some (.lst ds)) (hl : ds.length = ps.length) (hz : ds.length ≤ 1000) (h : ∀ (i : Nat) d p, ds[i]? = some d → ps[i]? = some p → Deep μ n d p) : Deep μ (n + 1) (.own a) (.list ps)
  | tup {n : Nat} {ds : List D} {ps : List PyData} (hl : ds.length = ps.length) (hz : ds.length ≤ 1000) (h : ∀ (i : Nat) d p, ds[i]? = some d → ps[i]? = some p → Deep μ n d p) : Deep μ (n + 1) (.tup ds) (.tuple ps)
/-- equal values, fewer than n levels deep -/
def spSame : Nat → SpD
  | 0 => fun _ _ _ => False
  | n + 1 => fun ds μ P => ∃ f d p, ds = [f, d] ∧ Deep μ n f p ∧ Deep μ n d p ∧ P (.bl true) μ
abbrev sp__law_same (K : PySem.W.Frag) : SpD := spSame 7
theorem same_str {K : PySem.W.Frag} {v : Str} {μ : Mu} {P : D → Mu → Prop} (h : P (.bl true) μ) : sp__law_same K [.str v, .str v] μ P := ⟨_, _, _, rfl, .str v, .str v, h⟩
/-- where parts raises -/
def rrParts (K : PySem.W.Frag) : SpR := fun ds => ∃ (n m : NestT) (pts rows : List (List Int)) (sides : List Int) (inv : List (List Int)), ds = [lotI K n pts, blockI K m rows sides inv] ∧ nestTxt n ≠ nestTxt m
end K80
/-! K80Sq -/
namespace K80
open PySem PySem.Spec PyProof.Rows L2 L3

end K80
/-! K80T -/
namespace K80
open PySem PySem.Spec PyProof.Rows L2 L3
/-! _law_bag: slots 0 script, 1 mixed, 2 cell -/
abbrev N__law_bag : List Str := [("script" : Str), ("mixed" : Str), ("cell" : Str)]
abbrev p__law_bag : List Str := [("script" : Str)]
def t__law_bag (K : PySem.W.Frag) : WS :=
  (wSeq (wAsg (wC (.int 16188)) 1)
    (wSeq (wFor (wSeqI (wSl (wVar 0) wNoPart (wPart (wC (.int 63))))) (gN 2) (wAsg (wOp gMod (wCB gInt1 (wCons (wOp gPlus (wOp gPlus (wOp gMulX (wVar 1) (wC (.int 48271))) (wOp gMulX (wOp gMod (wCB gInt1 (wCons (wVar 2) wNil)) (wC (.int 1000639))) (wC (.int 877)))) (wC (.int 83))) wNil)) (wC (.int 2147483579))) 1))
    (wRet (wLstM (wCons (wCB gList (wCons (wSl (wVar 0) wNoPart (wPart (wC (.int 63)))) wNil)) (wCons (wC (.int 0)) (wCons (wC (.int 0)) (wCons (wVar 1) (wCons (wC (.int 0)) wNil)))))))))
abbrev k__law_bag : Nat := 1
/-! _law_draw: slots 0 bag, 1 below, 2 cell, 3 digit, 4 seed -/
abbrev N__law_draw : List Str := [("bag" : Str), ("below" : Str), ("cell" : Str), ("digit" : Str), ("seed" : Str)]
abbrev p__law_draw : List Str := [("bag" : Str), ("below" : Str)]
def t__law_draw (K : PySem.W.Frag) : WS :=
  (wSeq (wSetI (wVar 0) (wC (.int 4)) (wOp gPlus (wOp gIx (wVar 0) (wC (.int 4))) (wC (.int 1))))
    (wSeq (wIfS (wAnd (wTest (wOp gEq (wOp gIx (wVar 0) (wC (.int 2))) (wC (.int 0)))) (wTest (wOp gLt (wOp gIx (wVar 0) (wC (.int 1))) (wCB gLen (wCons (wOp gIx (wVar 0) (wC (.int 0))) wNil))))) (wSeq (wAsg (wCB gInt1 (wCons (wOp gIx (wOp gIx (wVar 0) (wC (.int 0))) (wOp gIx (wVar 0) (wC (.int 1)))) wNil)) 2)
    (wSeq (wSetI (wVar 0) (wC (.int 1)) (wOp gPlus (wOp gIx (wVar 0) (wC (.int 1))) (wC (.int 1))))
    (wIfS (wTest (wOp gGe (wCB gAbs (wCons (wVar 2) wNil)) (wOp gPow (wC (.int 10)) (wC (.int 18))))) (wSetI (wVar 0) (wC (.int 2)) (wCB gAbs (wCons (wVar 2) wNil))) (wSetI (wVar 0) (wC (.int 3)) (wOp gMod (wCB gInt1 (wCons (wOp gPlus (wOp gPlus (wOp gMulX (wOp gIx (wVar 0) (wC (.int 3))) (wC (.int 43889))) (wOp gMulX (wOp gMod (wCB gInt1 (wCons (wVar 2) wNil)) (wC (.int 1000639))) (wC (.int 769)))) (wC (.int 41))) wNil)) (wC (.int 2147483587))))))) wNext)
    (wSeq (wIfS (wTest (wOp gGt (wOp gIx (wVar 0) (wC (.int 2))) (wC (.int 0)))) (wSeq (wAsg (wOp gMod (wCB gInt1 (wCons (wOp gIx (wVar 0) (wC (.int 2))) wNil)) (wVar 1)) 3)
    (wSeq (wSetI (wVar 0) (wC (.int 2)) (wOp gDivX (wOp gIx (wVar 0) (wC (.int 2))) (wVar 1)))
    (wRet (wVar 3)))) wNext)
    (wSeq (wAsg (wCB gInt1 (wCons (wOp gIx (wVar 0) (wC (.int 3))) wNil)) 4)
    (wSeq (wSetI (wVar 0) (wC (.int 3)) (wOp gMod (wCB gInt1 (wCons (wOp gPlus (wOp gPlus (wOp gPlus (wOp gMulX (wOp gMulX (wVar 4) (wVar 4)) (wC (.int 17))) (wOp gMulX (wVar 4) (wC (.int 47123)))) (wOp gMulX (wOp gIx (wVar 0) (wC (.int 4))) (wC (.int 110339)))) (wC (.int 60089))) wNil)) (wC (.int 2147483549))))
    (wRet (wOp gMod (wCB gInt1 (wCons (wOp gPlus (wOp gDivX (wOp gIx (wVar 0) (wC (.int 3))) (wC (.int 73))) (wOp gMulX (wOp gMod (wCB gInt1 (wCons (wOp gIx (wVar 0) (wC (.int 3))) wNil)) (wC (.int 8039))) (wC (.int 61)))) wNil)) (wVar 1))))))))
abbrev k__law_draw : Nat := 1
/-! _law_of: slots 0 bag, 1 things -/
abbrev N__law_of : List Str := [("bag" : Str), ("things" : Str)]
abbrev p__law_of : List Str := [("bag" : Str), ("things" : Str)]
def t__law_of (K : PySem.W.Frag) : WS :=
  (wRet (wOp gIx (wVar 1) (wCall (sp__law_draw K) (wCons (wVar 0) (wCons (wCB gLen (wCons (wVar 1) wNil)) wNil)))))
abbrev k__law_of : Nat := 2
/-! _law_pick: slots 0 bag, 1 things, 2 number, 3 left, 4 found, 5 k -/
abbrev N__law_pick : List Str := [("bag" : Str), ("things" : Str), ("number" : Str), ("left" : Str), ("found" : Str), ("k" : Str)]
abbrev p__law_pick : List Str := [("bag" : Str), ("things" : Str), ("number" : Str)]
def t__law_pick (K : PySem.W.Frag) : WS :=
  (wSeq (wPar 3 4 (wCons (wCB gListM (wCons (wVar 1) wNil)) (wCons (wLstM wNil) wNil)))
    (wSeq (wFor (wRng1 (wCons (wCB gMin2 (wCons (wVar 2) (wCons (wCB gLen (wCons (wVar 3) wNil)) wNil))) wNil)) (gN 5) (wDrop (wBM "list" gApp (wVar 4) (wCons (wBM "list" gPopAt (wVar 3) (wCons (wCall (sp__law_draw K) (wCons (wVar 0) (wCons (wCB gLen (wCons (wVar 3) wNil)) wNil))) wNil)) wNil))))
    (wRet (wVar 4))))
abbrev k__law_pick : Nat := 2
/-! _law_same: slots 0 found, 1 due, 2 a, 3 b -/
abbrev N__law_same : List Str := [("found" : Str), ("due" : Str), ("a" : Str), ("b" : Str)]
abbrev p__law_same : List Str := [("found" : Str), ("due" : Str)]
def t__law_same_r1 (K : PySem.W.Frag) (spr : SpD) : WS :=
  (wRet (wOp gEq (wVar 0) (wVar 1)))
def t__law_same_r2 (K : PySem.W.Frag) (spr : SpD) : WS :=
  (wRet (wAndV (wOp gEq (wCB gLen (wCons (wVar 0) wNil)) (wCB gLen (wCons (wVar 1) wNil))) (wCB gAll (wCons (wLc (wZipI (wCons (wVar 0) (wCons (wVar 1) wNil))) (gT 2 (gsCons (gN 2) (gsCons (gN 3) gsNil))) wYes (wCall spr (wCons (wVar 2) (wCons (wVar 3) wNil))) [2, 3]) wNil))))
def t__law_same (K : PySem.W.Frag) (spr : SpD) : WS :=
  (wSeq (wIfS (wOr (wTest (wOp gIs (wVar 1) (wC .non))) (wTest (wOp gIs (wVar 0) (wC .non)))) (wRet (wAndV (wOp gIs (wVar 1) (wC .non)) (wOp gIs (wVar 0) (wC .non)))) wNext)
    (wSeq (wIfS (wTest (wCB gIsi (wCons (wVar 1) (wCons (wC (.ty "dict")) wNil)))) wNever wNext)
    (wSeq (wIfS (wTest (wCB gIsiT (wCons (wVar 1) (wCons (wTup (wCons (wC (.ty "list")) (wCons (wC (.ty "tuple")) wNil))) wNil)))) (wSeq (wIfS (wTest (wOp gNeD (wLst (wCons (wCB gIsi (wCons (wVar 0) (wCons (wC (.ty "list")) wNil))) (wCons (wCB gIsi (wCons (wVar 0) (wCons (wC (.ty "tuple")) wNil))) wNil))) (wLst (wCons (wCB gIsi (wCons (wVar 1) (wCons (wC (.ty "list")) wNil))) (wCons (wCB gIsi (wCons (wVar 1) (wCons (wC (.ty "tuple")) wNil))) wNil))))) (wRet (wC (.bl false))) wNext)
    (t__law_same_r2 K spr)) wNext)
    (wSeq (wIfS (wTest (wOp gNeD (wLst (wCons (wCB gIsi (wCons (wVar 0) (wCons (wC (.ty "bool")) wNil))) (wCons (wCB gIsi (wCons (wVar 0) (wCons (wC (.ty "int")) wNil))) (wCons (wCB gIsi (wCons (wVar 0) (wCons (wC (.ty "str")) wNil))) wNil)))) (wLst (wCons (wCB gIsi (wCons (wVar 1) (wCons (wC (.ty "bool")) wNil))) (wCons (wCB gIsi (wCons (wVar 1) (wCons (wC (.ty "int")) wNil))) (wCons (wCB gIsi (wCons (wVar 1) (wCons (wC (.ty "str")) wNil))) wNil)))))) (wRet (wC (.bl false))) wNext)
    (t__law_same_r1 K spr)))))
abbrev k__law_same : Nat := 7
/-! _law_units: slots 0 deep, 1 i, 2 k -/
abbrev N__law_units : List Str := [("deep" : Str), ("i" : Str), ("k" : Str)]
abbrev p__law_units : List Str := [("deep" : Str)]
def t__law_units (K : PySem.W.Frag) : WS :=
  (wRet (wLc (wRng1 (wCons (wVar 0) wNil)) (gN 2) wYes (wCB gTuple (wCons (wLc (wRng1 (wCons (wVar 0) wNil)) (gN 1) wYes (wIf (wTest (wOp gEq (wVar 1) (wVar 2))) (wC (.int 1)) (wC (.int 0))) [1]) wNil)) [2]))
abbrev k__law_units : Nat := 1
/-! _law_names: slots 0 bag, 1 number, 2 found, 3 k, 4 name, 5 at, 6 own -/
abbrev N__law_names : List Str := [("bag" : Str), ("number" : Str), ("found" : Str), ("k" : Str), ("name" : Str), ("at" : Str), ("own" : Str)]
abbrev p__law_names : List Str := [("bag" : Str), ("number" : Str)]
def t__law_names_r1 (K : PySem.W.Frag) : WS :=
  (wDrop (wBM "list" gApp (wVar 2) (wCons (wVar 4) wNil)))
def t__law_names (K : PySem.W.Frag) : WS :=
  (wSeq (wAsg (wLstM wNil) 2)
    (wSeq (wFor (wRng1 (wCons (wVar 1) wNil)) (gN 3) (wSeq (wAsg (wCall (sp__law_of K) (wCons (wVar 0) (wCons (wC (.str ("qazwsxedcrfvtgbyhnujmikolp" : Str))) wNil))) 4)
    (wSeq (wFor (wRng1 (wCons (wCall (sp__law_of K) (wCons (wVar 0) (wCons (wLst (wCons (wC (.int 0)) (wCons (wC (.int 1)) (wCons (wC (.int 0)) (wCons (wC (.int 2)) (wCons (wC (.int 5)) (wCons (wC (.int 0)) wNil))))))) wNil))) wNil)) (gN 5) (wAsg (wOp gPlus (wVar 4) (wCall (sp__law_of K) (wCons (wVar 0) (wCons (wC (.str ("q7az0wsxe1dcrfvtg9byhnujmikolp" : Str))) wNil)))) 4))
    (wSeq (wIfS (wOr (wTest (wOp (gIn false) (wVar 4) (wVar 2))) (wTest (wOp (gIn false) (wVar 4) (wLst (wCons (wC (.str ("for" : Str))) (wCons (wC (.str ("touch" : Str))) (wCons (wC (.str ("nest" : Str))) (wCons (wC (.str ("done" : Str))) wNil)))))))) (wAsg (wOp gIx (wLc (wSeqI (wLst (wCons (wC (.str ("q" : Str))) (wCons (wC (.str ("ab" : Str))) (wCons (wC (.str ("z9" : Str))) (wCons (wC (.str ("i" : Str))) (wCons (wC (.str ("k0a" : Str))) (wCons (wC (.str ("b" : Str))) (wCons (wC (.str ("for1" : Str))) (wCons (wC (.str ("j" : Str))) wNil)))))))))) (gN 6) (wTest (wOp (gIn true) (wVar 6) (wVar 2))) (wVar 6) [6]) (wC (.int 0))) 4) wNext)
    (t__law_names_r1 K)))))
    (wRet (wFrz (wVar 2)))))
abbrev k__law_names : Nat := 3
/-! _law_row: slots 0 bag, 1 deep, 2 plain, 3 at, 4 m, 5 k -/
abbrev N__law_row : List Str := [("bag" : Str), ("deep" : Str), ("plain" : Str), ("at" : Str), ("m" : Str), ("k" : Str)]
abbrev p__law_row : List Str := [("bag" : Str), ("deep" : Str), ("plain" : Str)]
def t__law_row_r1 (K : PySem.W.Frag) : WS :=
  (wRet (wCB gTuple (wCons (wLc (wRng1 (wCons (wVar 1) wNil)) (gN 5) wYes (wCall (sp__law_of K) (wCons (wVar 0) (wCons (wLst (wCons (wC (.int 1)) (wCons (wC (.int 0)) (wCons (wC (.int 0)) (wCons (wUn gNeg (wC (.int 1))) (wCons (wC (.int 0)) (wCons (wC (.int 1)) (wCons (wC (.int 2)) (wCons (wC (.int 0)) (wCons (wUn gNeg (wC (.int 2))) (wCons (wC (.int 3)) wNil))))))))))) wNil))) [5]) wNil)))
def t__law_row (K : PySem.W.Frag) : WS :=
  (wSeq (wIfS (wTru (wVar 2)) (wSeq (wAsgG (wTup (wCons (wCall (sp__law_draw K) (wCons (wVar 0) (wCons (wVar 1) wNil))) (wCons (wCall (sp__law_of K) (wCons (wVar 0) (wCons (wLst (wCons (wC (.int 1)) (wCons (wC (.int 1)) (wCons (wC (.int 2)) (wCons (wC (.int 1)) (wCons (wUn gNeg (wC (.int 1))) wNil)))))) wNil))) wNil))) (gT 2 (gsCons (gN 3) (gsCons (gN 4) gsNil))))
    (wRet (wCB gTuple (wCons (wLc (wRng1 (wCons (wVar 1) wNil)) (gN 5) wYes (wIf (wTest (wOp gEq (wVar 5) (wVar 3))) (wVar 4) (wC (.int 0))) [5]) wNil)))) wNext)
    (t__law_row_r1 K))
abbrev k__law_row : Nat := 3
/-! _law_matrices: slots 0 bag, 1 deep, 2 wide, 3 plain, 4 at, 5 k -/
abbrev N__law_matrices : List Str := [("bag" : Str), ("deep" : Str), ("wide" : Str), ("plain" : Str), ("at" : Str), ("k" : Str)]
abbrev p__law_matrices : List Str := [("bag" : Str), ("deep" : Str), ("wide" : Str), ("plain" : Str)]
def t__law_matrices (K : PySem.W.Frag) : WS :=
  (wRet (wLc (wRng1 (wCons (wVar 2) wNil)) (gN 5) wYes (wLc (wRng1 (wCons (wCall (sp__law_of K) (wCons (wVar 0) (wCons (wLst (wCons (wC (.int 1)) (wCons (wC (.int 2)) (wCons (wC (.int 1)) (wCons (wC (.int 1)) (wCons (wC (.int 2)) (wCons (wC (.int 0)) (wCons (wC (.int 3)) (wCons (wC (.int 2)) wNil))))))))) wNil))) wNil)) (gN 4) wYes (wCall (sp__law_row K) (wCons (wVar 0) (wCons (wVar 1) (wCons (wVar 3) wNil)))) [4]) [5]))
abbrev k__law_matrices : Nat := 4
/-! _law_array: slots 0 bag, 1 name, 2 k -/
abbrev N__law_array : List Str := [("bag" : Str), ("name" : Str), ("k" : Str)]
abbrev p__law_array : List Str := [("bag" : Str)]
def t__law_array (K : PySem.W.Frag) : WS :=
  (wSeq (wAsg (wCall (sp__law_of K) (wCons (wVar 0) (wCons (wC (.str ("QWERTYNUIOPASDFGHJKLZXCVBM" : Str))) wNil))) 1)
    (wSeq (wFor (wRng1 (wCons (wCall (sp__law_of K) (wCons (wVar 0) (wCons (wLst (wCons (wC (.int 0)) (wCons (wC (.int 0)) (wCons (wC (.int 1)) (wCons (wC (.int 2)) (wCons (wC (.int 7)) (wCons (wC (.int 0)) wNil))))))) wNil))) wNil)) (gN 2) (wAsg (wOp gPlus (wVar 1) (wCall (sp__law_of K) (wCons (wVar 0) (wCons (wC (.str ("Q0WERTY1UIOPA9SDFGHJKLZXCVBNM" : Str))) wNil)))) 1))
    (wRet (wVar 1))))
abbrev k__law_array : Nat := 3
/-! _law_dressed: slots 0 bag, 1 matrices, 2 found, 3 matrix, 4 alike, 5 name, 6 subs, 7 other, 8 known, 9 own, 10 row -/
abbrev N__law_dressed : List Str := [("bag" : Str), ("matrices" : Str), ("found" : Str), ("matrix" : Str), ("alike" : Str), ("name" : Str), ("subs" : Str), ("other" : Str), ("known" : Str), ("own" : Str), ("row" : Str)]
abbrev p__law_dressed : List Str := [("bag" : Str), ("matrices" : Str)]
def t__law_dressed_r1 (K : PySem.W.Frag) : WS :=
  (wDrop (wBM "list" gApp (wVar 2) (wCons (wTup (wCons (wVar 5) (wCons (wLc (wSeqI (wVar 3)) (gN 10) wYes (wTup (wCons (wCB gTuple (wCons (wVar 10) wNil)) (wCons (wCall (sp__law_of K) (wCons (wVar 0) (wCons (wLst (wCons (wC (.int 0)) (wCons (wC (.int 1)) (wCons (wC (.int 0)) (wCons (wUn gNeg (wC (.int 1))) (wCons (wC (.int 0)) (wCons (wC (.int 5)) (wCons (wUn gNeg (wC (.int 12))) (wCons (wC (.int 9999)) wNil))))))))) wNil))) wNil))) [10]) wNil))) wNil)))
def t__law_dressed_r2 (K : PySem.W.Frag) : WS :=
  (wIfS (wTest (wOp (gIn false) (wVar 5) (wLc (wSeqI (wVar 2)) (gT 2 (gsCons (gN 7) (gsCons (gN 6) gsNil))) wYes (wVar 7) [7, 6]))) (wSeq (wAsg (wLc (wSeqI (wVar 2)) (gT 2 (gsCons (gN 7) (gsCons (gN 6) gsNil))) wYes (wVar 7) [7, 6]) 8)
    (wAsg (wOp gIx (wLc (wSeqI (wLst (wCons (wC (.str ("Q" : Str))) (wCons (wC (.str ("AB" : Str))) (wCons (wC (.str ("Z9" : Str))) (wCons (wC (.str ("I" : Str))) (wCons (wC (.str ("K0A" : Str))) (wCons (wC (.str ("B" : Str))) (wCons (wC (.str ("N1" : Str))) (wCons (wC (.str ("J" : Str))) wNil)))))))))) (gN 9) (wTest (wOp (gIn true) (wVar 9) (wVar 8))) (wVar 9) [9]) (wC (.int 0))) 5)) wNext)
def t__law_dressed (K : PySem.W.Frag) : WS :=
  (wSeq (wAsg (wLstM wNil) 2)
    (wSeq (wFor (wSeqI (wVar 1)) (gN 3) (wSeq (wAsg (wLc (wSeqI (wVar 2)) (gT 2 (gsCons (gN 5) (gsCons (gN 6) gsNil))) (wTest (wOp gEq (wCB gLen (wCons (wVar 6) wNil)) (wCB gLen (wCons (wVar 3) wNil)))) (wVar 5) [5, 6]) 4)
    (wSeq (wAsg (wCall (sp__law_array K) (wCons (wVar 0) wNil)) 5)
    (wSeq (wIfS (wAnd (wTru (wVar 4)) (wTest (wOp gEq (wCall (sp__law_draw K) (wCons (wVar 0) (wCons (wC (.int 4)) wNil))) (wC (.int 3))))) (wAsg (wCall (sp__law_of K) (wCons (wVar 0) (wCons (wVar 4) wNil))) 5) (t__law_dressed_r2 K))
    (t__law_dressed_r1 K)))))
    (wRet (wFrz (wVar 2)))))
abbrev k__law_dressed : Nat := 4
/-! _law_nest: slots 0 bag, 1 matrices, 2 deep -/
abbrev N__law_nest : List Str := [("bag" : Str), ("matrices" : Str), ("deep" : Str)]
abbrev p__law_nest : List Str := [("bag" : Str), ("matrices" : Str), ("deep" : Str)]
def t__law_nest (K : PySem.W.Frag) : WS :=
  (wRet (wTup (wCons (wCall (sp__law_names K) (wCons (wVar 0) (wCons (wVar 2) wNil))) (wCons (wCall (sp__law_dressed K) (wCons (wVar 0) (wCons (wVar 1) wNil))) wNil))))
abbrev k__law_nest : Nat := 5
/-! is_counter_name: slots 0 word, 1 sign -/
abbrev N_is_counter_name : List Str := [("word" : Str), ("sign" : Str)]
abbrev p_is_counter_name : List Str := [("word" : Str)]
def t_is_counter_name_r1 (K : PySem.W.Frag) : WS :=
  (wRet (wCB gAll (wCons (wLc (wStrI (wVar 0)) (gN 1) wYes (wOrV (wOp (gIn false) (wVar 1) (wC (.str ("abcdefghijklmnopqrstuvwxyz" : Str)))) (wOp (gIn false) (wVar 1) (wC (.str ("0123456789" : Str))))) [1]) wNil)))
def t_is_counter_name (K : PySem.W.Frag) : WS :=
  (wSeq (wIfS (wOr (wNot (wTest (wChain gLe gLe (wC (.int 1)) (wCB gLen (wCons (wVar 0) wNil)) (wC (.int 6))))) (wOr (wInK kept (wVar 0)) (wTest (wOp (gIn true) (wOp gIx (wVar 0) (wC (.int 0))) (wC (.str ("abcdefghijklmnopqrstuvwxyz" : Str))))))) (wRet (wC (.bl false))) wNext)
    (t_is_counter_name_r1 K))
abbrev k_is_counter_name : Nat := 1
/-! counters_fault: slots 0 counters, 1 name -/
abbrev N_counters_fault : List Str := [("counters" : Str), ("name" : Str)]
abbrev p_counters_fault : List Str := [("counters" : Str)]
def t_counters_fault_r1 (K : PySem.W.Frag) : WS :=
  (wRet (wC (.str ("" : Str))))
def t_counters_fault (K : PySem.W.Frag) : WS :=
  (wSeq (wIfS (wOr (wNot (wTru (wVar 0))) (wNot (wTest (wCB gAll (wCons (wLc (wSeqI (wVar 0)) (gN 1) wYes (wCall (sp_is_counter_name K) (wCons (wVar 1) wNil)) [1]) wNil))))) (wRet (wC (.str ("form" : Str)))) wNext)
    (wSeq (wIfS (wTest (wOp gLt (wCB gLen (wCons (wDc keyK (wSeqI (wVar 0)) (gN 1) wYes (wVar 1) (wC (.bl true)) [1]) wNil)) (wCB gLen (wCons (wVar 0) wNil)))) (wRet (wC (.str ("double" : Str)))) wNext)
    (t_counters_fault_r1 K)))
abbrev k_counters_fault : Nat := 2
/-! look_at_counters: slots 0 counters, 1 why -/
abbrev N_look_at_counters : List Str := [("counters" : Str), ("why" : Str)]
abbrev p_look_at_counters : List Str := [("counters" : Str)]
def t_look_at_counters (K : PySem.W.Frag) : WS :=
  (wSeq (wAsg (wCall (sp_counters_fault K) (wCons (wVar 0) wNil)) 1)
    (wIfS (wTest (wOp gNe (wVar 1) (wC (.str ("" : Str))))) wNever wNext))
abbrev k_look_at_counters : Nat := 3
/-! is_array_name: slots 0 word, 1 sign -/
abbrev N_is_array_name : List Str := [("word" : Str), ("sign" : Str)]
abbrev p_is_array_name : List Str := [("word" : Str)]
def t_is_array_name_r1 (K : PySem.W.Frag) : WS :=
  (wRet (wCB gAll (wCons (wLc (wStrI (wVar 0)) (gN 1) wYes (wOrV (wOp (gIn false) (wVar 1) (wC (.str ("ABCDEFGHIJKLMNOPQRSTUVWXYZ" : Str)))) (wOp (gIn false) (wVar 1) (wC (.str ("0123456789" : Str))))) [1]) wNil)))
def t_is_array_name (K : PySem.W.Frag) : WS :=
  (wSeq (wIfS (wOr (wNot (wTest (wChain gLe gLe (wC (.int 1)) (wCB gLen (wCons (wVar 0) wNil)) (wC (.int 8))))) (wTest (wOp (gIn true) (wOp gIx (wVar 0) (wC (.int 0))) (wC (.str ("ABCDEFGHIJKLMNOPQRSTUVWXYZ" : Str)))))) (wRet (wC (.bl false))) wNext)
    (t_is_array_name_r1 K))
abbrev k_is_array_name : Nat := 1
/-! look_at_touches: slots 0 deep, 1 touches, 2 lengths, 3 at, 4 array, 5 subscripts, 6 pair -/
abbrev N_look_at_touches : List Str := [("deep" : Str), ("touches" : Str), ("lengths" : Str), ("at" : Str), ("array" : Str), ("subscripts" : Str), ("pair" : Str)]
abbrev p_look_at_touches : List Str := [("deep" : Str), ("touches" : Str)]
def t_look_at_touches_r1 (K : PySem.W.Frag) : WS :=
  (wIfS (wTest (wOp gNe (wDSetdK (wVar 2) (wVar 4) (wCB gLen (wCons (wVar 5) wNil))) (wCB gLen (wCons (wVar 5) wNil)))) wNever wNext)
def t_look_at_touches (K : PySem.W.Frag) : WS :=
  (wSeq (wIfS (wNot (wTru (wVar 1))) wNever wNext)
    (wSeq (wAsg wNewK 2)
    (wFor (wEnumI (wCons (wVar 1) wNil)) (gT 2 (gsCons (gN 3) (gsCons (gT 2 (gsCons (gN 4) (gsCons (gN 5) gsNil))) gsNil))) (wSeq (wIfS (wOr (wNot (wTru (wCall (sp_is_array_name K) (wCons (wVar 4) wNil)))) (wTest (wCB gAny (wCons (wLc (wSeqI (wVar 5)) (gN 6) wYes (wOp gNe (wCB gLen (wCons (wOp gIx (wVar 6) (wC (.int 0))) wNil)) (wVar 0)) [6]) wNil)))) wNever wNext)
    (t_look_at_touches_r1 K)))))
abbrev k_look_at_touches : Nat := 2
/-! integer_text: slots 0 value, 1 left, 2 parts, 3 rest -/
abbrev N_integer_text : List Str := [("value" : Str), ("left" : Str), ("parts" : Str), ("rest" : Str)]
abbrev p_integer_text : List Str := [("value" : Str)]
def t_integer_text_r1 (K : PySem.W.Frag) : WS :=
  wNever
def t_integer_text (K : PySem.W.Frag) : WS :=
  (wSeq (wIfS (wTest (wChain gLt gLt (wUn gNeg (wC (.int 1000000000000000000000000000000000000000000000000000000000000))) (wVar 0) (wC (.int 1000000000000000000000000000000000000000000000000000000000000)))) (wRet (wCB gStrI (wCons (wVar 0) wNil))) wNext)
    (wSeq wNever
    (wSeq wNever
    (wSeq wNever
    (wSeq wNever
    (wSeq wNever
    (t_integer_text_r1 K)))))))
abbrev k_integer_text : Nat := 1
/-! subscript_text: slots 0 counters, 1 row, 2 offset, 3 words, 4 name, 5 multiple, 6 amount -/
abbrev N_subscript_text : List Str := [("counters" : Str), ("row" : Str), ("offset" : Str), ("words" : Str), ("name" : Str), ("multiple" : Str), ("amount" : Str)]
abbrev p_subscript_text : List Str := [("counters" : Str), ("row" : Str), ("offset" : Str)]
def t_subscript_text_r1 (K : PySem.W.Frag) : WS :=
  (wRet (wBM "str" gJoin (wC (.str (" " : Str))) (wCons (wIf (wTest (wOp gEq (wOp gIx (wVar 3) (wC (.int 0))) (wC (.str ("+" : Str))))) (wSl (wVar 3) (wPart (wC (.int 1))) wNoPart) (wVar 3)) wNil)))
def t_subscript_text (K : PySem.W.Frag) : WS :=
  (wSeq (wAsg (wLstM wNil) 3)
    (wSeq (wFor (wZipI (wCons (wVar 0) (wCons (wVar 1) wNil))) (gT 2 (gsCons (gN 4) (gsCons (gN 5) gsNil))) (wIfS (wTest (wOp gNe (wVar 5) (wC (.int 0)))) (wSeq (wDrop (wBM "list" gApp (wVar 3) (wCons (wIf (wTest (wOp gGt (wVar 5) (wC (.int 0)))) (wC (.str ("+" : Str))) (wC (.str ("-" : Str)))) wNil)))
    (wSeq (wAsg (wCB gAbs (wCons (wVar 5) wNil)) 6)
    (wDrop (wBM "list" gApp (wVar 3) (wCons (wIf (wTest (wOp gEq (wVar 6) (wC (.int 1)))) (wVar 4) (wJoined [(wFmt (wCall (sp_integer_text K) (wCons (wVar 6) wNil))), (wC (.str ("*" : Str))), (wFmt (wVar 4))])) wNil))))) wNext))
    (wSeq (wIfS (wTest (wOp gNe (wVar 2) (wC (.int 0)))) (wSeq (wDrop (wBM "list" gApp (wVar 3) (wCons (wIf (wTest (wOp gGt (wVar 2) (wC (.int 0)))) (wC (.str ("+" : Str))) (wC (.str ("-" : Str)))) wNil)))
    (wDrop (wBM "list" gApp (wVar 3) (wCons (wCall (sp_integer_text K) (wCons (wCB gAbs (wCons (wVar 2) wNil)) wNil)) wNil)))) wNext)
    (wSeq (wIfS (wNot (wTru (wVar 3))) (wRet (wC (.str ("0" : Str)))) wNext)
    (t_subscript_text_r1 K)))))
abbrev k_subscript_text : Nat := 2
/-! touch_text: slots 0 counters, 1 array, 2 subscripts, 3 parts, 4 row, 5 offset -/
abbrev N_touch_text : List Str := [("counters" : Str), ("array" : Str), ("subscripts" : Str), ("parts" : Str), ("row" : Str), ("offset" : Str)]
abbrev p_touch_text : List Str := [("counters" : Str), ("array" : Str), ("subscripts" : Str)]
def t_touch_text_r1 (K : PySem.W.Frag) : WS :=
  (wRet (wOp gPlus (wJoined [(wC (.str ("touch " : Str))), (wFmt (wVar 1)), (wC (.str (" : " : Str)))]) (wBM "str" gJoin (wC (.str (" , " : Str))) (wCons (wVar 3) wNil))))
def t_touch_text (K : PySem.W.Frag) : WS :=
  (wSeq (wAsg (wLc (wSeqI (wVar 2)) (gT 2 (gsCons (gN 4) (gsCons (gN 5) gsNil))) wYes (wCall (sp_subscript_text K) (wCons (wVar 0) (wCons (wVar 4) (wCons (wVar 5) wNil)))) [4, 5]) 3)
    (wSeq (wIfS (wNot (wTru (wVar 3))) (wRet (wJoined [(wC (.str ("touch " : Str))), (wFmt (wVar 1)), (wC (.str (" :" : Str)))])) wNext)
    (t_touch_text_r1 K)))
abbrev k_touch_text : Nat := 3
/-! nest_text: slots 0 counters, 1 touches, 2 lines, 3 array, 4 subscripts, 5 line -/
abbrev N_nest_text : List Str := [("counters" : Str), ("touches" : Str), ("lines" : Str), ("array" : Str), ("subscripts" : Str), ("line" : Str)]
abbrev p_nest_text : List Str := [("counters" : Str), ("touches" : Str)]
def t_nest_text (K : PySem.W.Frag) : WS :=
  (wSeq (wAsg (wLstM (wCons (wC (.str ("nest" : Str))) (wCons (wOp gPlus (wC (.str ("for " : Str))) (wBM "str" gJoin (wC (.str (" " : Str))) (wCons (wVar 0) wNil))) wNil))) 2)
    (wSeq (wFor (wSeqI (wVar 1)) (gT 2 (gsCons (gN 3) (gsCons (gN 4) gsNil))) (wDrop (wBM "list" gApp (wVar 2) (wCons (wCall (sp_touch_text K) (wCons (wVar 0) (wCons (wVar 3) (wCons (wVar 4) wNil)))) wNil))))
    (wSeq (wDrop (wBM "list" gApp (wVar 2) (wCons (wC (.str ("done" : Str))) wNil)))
    (wRet (wBM "str" gJoin (wC (.str ("" : Str))) (wCons (wLc (wSeqI (wVar 2)) (gN 5) wYes (wOp gPlus (wVar 5) (wC (.str ("\n" : Str)))) [5]) wNil))))))
abbrev k_nest_text : Nat := 4
/-! Nest.__init__: slots 0 self, 1 counters, 2 touches, 3 names, 4 kept, 5 array, 6 subscripts, 7 row, 8 offset -/
abbrev N_Nest_init : List Str := [("self" : Str), ("counters" : Str), ("touches" : Str), ("names" : Str), ("kept" : Str), ("array" : Str), ("subscripts" : Str), ("row" : Str), ("offset" : Str)]
abbrev p_Nest_init : List Str := [("self" : Str), ("counters" : Str), ("touches" : Str)]
def t_Nest_init (K : PySem.W.Frag) : WS :=
  (wSeq (wAsg (wCB gList (wCons (wVar 1) wNil)) 3)
    (wSeq (wAsg (wLstM wNil) 4)
    (wSeq (wFor (wSeqI (wVar 2)) (gT 2 (gsCons (gN 5) (gsCons (gN 6) gsNil))) (wDrop (wBM "list" gApp (wVar 4) (wCons (wTup (wCons (wVar 5) (wCons (wLc (wSeqI (wVar 6)) (gT 2 (gsCons (gN 7) (gsCons (gN 8) gsNil))) wYes (wTup (wCons (wCB gTuple (wCons (wVar 7) wNil)) (wCons (wVar 8) wNil))) [7, 8]) wNil))) wNil))))
    (wSeq (wThaw 4 (wDrop (wCall (sp_look_at_counters K) (wCons (wVar 3) wNil))))
    (wSeq (wDrop (wCall (sp_look_at_touches K) (wCons (wCB gLen (wCons (wVar 3) wNil)) (wCons (wVar 4) wNil))))
    (wSeq (wSetF (He.ga K ("Nest" : Str)) ("_counters" : Str) (wVar 0) (wVar 3))
    (wSeq (wSetF (He.ga K ("Nest" : Str)) ("_touches" : Str) (wVar 0) (wVar 4))
    (wSeq (wSetF (He.ga K ("Nest" : Str)) ("deep" : Str) (wVar 0) (wCB gLen (wCons (wVar 3) wNil)))
    (wSeq (wSetF (He.ga K ("Nest" : Str)) ("wide" : Str) (wVar 0) (wCB gLen (wCons (wVar 4) wNil)))
    (wSetF (He.ga K ("Nest" : Str)) ("text" : Str) (wVar 0) (wCall (sp_nest_text K) (wCons (wVar 3) (wCons (wVar 4) wNil)))))))))))))
abbrev k_Nest_init : Nat := 5
/-! Nest.__eq__: slots 0 self, 1 other -/
abbrev N_Nest_eq : List Str := [("self" : Str), ("other" : Str)]
abbrev p_Nest_eq : List Str := [("self" : Str), ("other" : Str)]
def t_Nest_eq (K : PySem.W.Frag) : WS :=
  (wRet (wAndV (wCB (gIsC (He.ga K ("Nest" : Str))) (wCons (wVar 1) (wCons (wC (.own (He.ga K ("Nest" : Str)))) wNil))) (wOp gEq (wFld (He.ga K ("Nest" : Str)) ("text" : Str) (wVar 0)) (wFld (He.ga K ("Nest" : Str)) ("text" : Str) (wVar 1)))))
abbrev k_Nest_eq : Nat := 1
/-! _law_copied: slots 0 nest, 1 name, 2 subs -/
abbrev N__law_copied : List Str := [("nest" : Str), ("name" : Str), ("subs" : Str)]
abbrev p__law_copied : List Str := [("nest" : Str)]
def t__law_copied (K : PySem.W.Frag) : WS :=
  (wRet (wFrz (wMake (He.ga K ("Nest" : Str)) (sp_Nest_init K) (wCons (wCB gList (wCons (wOp gIx (wVar 0) (wC (.int 0))) wNil)) (wCons (wLc (wSeqI (wOp gIx (wVar 0) (wC (.int 1)))) (gT 2 (gsCons (gN 1) (gsCons (gN 2) gsNil))) wYes (wTup (wCons (wVar 1) (wCons (wCB gList (wCons (wVar 2) wNil)) wNil))) [1, 2]) wNil)))))
abbrev k__law_copied : Nat := 7
/-! _law_points: slots 0 bag, 1 deep, 2 many, 3 k, 4 at -/
abbrev N__law_points : List Str := [("bag" : Str), ("deep" : Str), ("many" : Str), ("k" : Str), ("at" : Str)]
abbrev p__law_points : List Str := [("bag" : Str), ("deep" : Str), ("many" : Str)]
def t__law_points (K : PySem.W.Frag) : WS :=
  (wRet (wSortSet (wLc (wRng1 (wCons (wVar 2) wNil)) (gN 4) wYes (wCB gTuple (wCons (wLc (wRng1 (wCons (wVar 1) wNil)) (gN 3) wYes (wCall (sp__law_of K) (wCons (wVar 0) (wCons (wLst (wCons (wC (.int 0)) (wCons (wC (.int 1)) (wCons (wC (.int 2)) (wCons (wUn gNeg (wC (.int 1))) (wCons (wC (.int 3)) (wCons (wC (.int 4)) (wCons (wUn gNeg (wC (.int 2))) (wCons (wUn gNeg (wC (.int 3))) (wCons (wC (.int 0)) (wCons (wC (.int 1)) wNil))))))))))) wNil))) [3]) wNil)) [4])))
abbrev k__law_points : Nat := 3
/-! _law_basis: slots 0 bag, 1 deep, 2 steps, 3 found, 4 unit, 5 k, 6 a, 7 b, 8 c, 9 n, 10 row, 11 m -/
abbrev N__law_basis : List Str := [("bag" : Str), ("deep" : Str), ("steps" : Str), ("found" : Str), ("unit" : Str), ("k" : Str), ("a" : Str), ("b" : Str), ("c" : Str), ("n" : Str), ("row" : Str), ("m" : Str)]
abbrev p__law_basis : List Str := [("bag" : Str), ("deep" : Str), ("steps" : Str)]
def t__law_basis (K : PySem.W.Frag) : WS :=
  (wSeq (wAsg (wLcM (wSeqI (wCall (sp__law_units K) (wCons (wVar 1) wNil))) (gN 4) wYes (wCB gList (wCons (wVar 4) wNil)) [4]) 3)
    (wSeq (wFor (wRng1 (wCons (wVar 2) wNil)) (gN 5) (wSeq (wAsgG (wTup (wCons (wCall (sp__law_draw K) (wCons (wVar 0) (wCons (wVar 1) wNil))) (wCons (wCall (sp__law_draw K) (wCons (wVar 0) (wCons (wVar 1) wNil))) (wCons (wCall (sp__law_of K) (wCons (wVar 0) (wCons (wLst (wCons (wC (.int 1)) (wCons (wC (.int 0)) (wCons (wUn gNeg (wC (.int 1))) (wCons (wC (.int 2)) (wCons (wC (.int 1)) wNil)))))) wNil))) wNil)))) (gT 3 (gsCons (gN 6) (gsCons (gN 7) (gsCons (gN 8) gsNil)))))
    (wIfS (wTest (wOp gEq (wVar 6) (wVar 7))) (wSetI (wVar 3) (wVar 6) (wLc (wSeqI (wOp gIx (wVar 3) (wVar 6))) (gN 9) wYes (wOp gSub (wC (.int 0)) (wVar 9)) [9])) (wIfS (wTest (wOp gEq (wVar 8) (wC (.int 0)))) (wAsgG2 (wTup (wCons (wOp gIx (wVar 3) (wVar 7)) (wCons (wOp gIx (wVar 3) (wVar 6)) wNil))) (gT2 2 (gs2Cons (gSub2 (wVar 3) (wVar 6)) (gs2Cons (gSub2 (wVar 3) (wVar 7)) gs2Nil)))) (wSeq (wAsg (wLc (wZipI (wCons (wOp gIx (wVar 3) (wVar 6)) (wCons (wOp gIx (wVar 3) (wVar 7)) wNil))) (gT 2 (gsCons (gN 9) (gsCons (gN 11) gsNil))) wYes (wOp gPlus (wVar 9) (wOp gMulX (wVar 8) (wVar 11))) [9, 11]) 10)
    (wIfS (wTest (wOp gLt (wCB gMax (wCons (wLc (wSeqI (wVar 10)) (gN 9) wYes (wCB gAbs (wCons (wVar 9) wNil)) [9]) wNil)) (wC (.int 4)))) (wSetI (wVar 3) (wVar 6) (wVar 10)) wNext))))))
    (wRet (wLc (wSeqI (wVar 3)) (gN 10) wYes (wCB gTuple (wCons (wVar 10) wNil)) [10]))))
abbrev k__law_basis : Nat := 3
/-! _law_undone: slots 0 rows, 1 size, 2 left, 3 i, 4 k, 5 column, 6 live, 7 best, 8 lead, 9 times, 10 p, 11 q, 12 n, 13 row -/
abbrev N__law_undone : List Str := [("rows" : Str), ("size" : Str), ("left" : Str), ("i" : Str), ("k" : Str), ("column" : Str), ("live" : Str), ("best" : Str), ("lead" : Str), ("times" : Str), ("p" : Str), ("q" : Str), ("n" : Str), ("row" : Str)]
abbrev p__law_undone : List Str := [("rows" : Str)]
def t__law_undone (K : PySem.W.Frag) : WS :=
  (wSeq (wAsg (wCB gLen (wCons (wVar 0) wNil)) 1)
    (wSeq (wAsg (wLcM (wRng1 (wCons (wVar 1) wNil)) (gN 4) wYes (wOp gPlus (wCB gList (wCons (wOp gIx (wVar 0) (wVar 4)) wNil)) (wLc (wRng1 (wCons (wVar 1) wNil)) (gN 3) wYes (wIf (wTest (wOp gEq (wVar 3) (wVar 4))) (wC (.int 1)) (wC (.int 0))) [3])) [4]) 2)
    (wSeq (wFor (wRng1 (wCons (wVar 1) wNil)) (gN 5) (wSeq (wAsg (wLc (wRng2 (wCons (wVar 5) (wCons (wVar 1) wNil))) (gN 4) (wTest (wOp gNe (wOp gIx (wOp gIx (wVar 2) (wVar 4)) (wVar 5)) (wC (.int 0)))) (wVar 4) [4]) 6)
    (wSeq (wWhile (wTest (wOp gGt (wCB gLen (wCons (wVar 6) wNil)) (wC (.int 1)))) (wSeq (wAsg (wOp gIx (wVar 6) (wC (.int 0))) 7)
    (wSeq (wFor (wSeqI (wVar 6)) (gN 4) (wIfS (wTest (wOp gLt (wCB gAbs (wCons (wOp gIx (wOp gIx (wVar 2) (wVar 4)) (wVar 5)) wNil)) (wCB gAbs (wCons (wOp gIx (wOp gIx (wVar 2) (wVar 7)) (wVar 5)) wNil)))) (wAsg (wVar 4) 7) wNext))
    (wSeq (wAsg (wOp gIx (wVar 2) (wVar 7)) 8)
    (wSeq (wFor (wSeqI (wVar 6)) (gN 4) (wIfS (wTest (wOp gNe (wVar 4) (wVar 7))) (wSeq (wAsg (wOp gDivX (wOp gIx (wOp gIx (wVar 2) (wVar 4)) (wVar 5)) (wOp gIx (wVar 8) (wVar 5))) 9)
    (wSetI (wVar 2) (wVar 4) (wLc (wZipI (wCons (wOp gIx (wVar 2) (wVar 4)) (wCons (wVar 8) wNil))) (gT 2 (gsCons (gN 10) (gsCons (gN 11) gsNil))) wYes (wOp gSub (wVar 10) (wOp gMulX (wVar 9) (wVar 11))) [10, 11]))) wNext))
    (wAsg (wLc (wRng2 (wCons (wVar 5) (wCons (wVar 1) wNil))) (gN 4) (wTest (wOp gNe (wOp gIx (wOp gIx (wVar 2) (wVar 4)) (wVar 5)) (wC (.int 0)))) (wVar 4) [4]) 6))))))
    (wSeq (wIfS (wOr (wNot (wTru (wVar 6))) (wTest (wOp gNe (wCB gAbs (wCons (wOp gIx (wOp gIx (wVar 2) (wOp gIx (wVar 6) (wC (.int 0)))) (wVar 5)) wNil)) (wC (.int 1))))) (wRet (wC .non)) wNext)
    (wSeq (wAsg (wLc (wSeqI (wOp gIx (wVar 2) (wOp gIx (wVar 6) (wC (.int 0))))) (gN 12) wYes (wOp gMulX (wOp gIx (wOp gIx (wVar 2) (wOp gIx (wVar 6) (wC (.int 0)))) (wVar 5)) (wVar 12)) [12]) 8)
    (wSeq (wSetI (wVar 2) (wOp gIx (wVar 6) (wC (.int 0))) (wOp gIx (wVar 2) (wVar 5)))
    (wSeq (wSetI (wVar 2) (wVar 5) (wVar 8))
    (wAsg (wLcM (wRng1 (wCons (wVar 1) wNil)) (gN 4) wYes (wIf (wTest (wOp gEq (wVar 4) (wVar 5))) (wOp gIx (wVar 2) (wVar 4)) (wLc (wZipI (wCons (wOp gIx (wVar 2) (wVar 4)) (wCons (wVar 8) wNil))) (gT 2 (gsCons (gN 10) (gsCons (gN 11) gsNil))) wYes (wOp gSub (wVar 10) (wOp gMulX (wOp gIx (wOp gIx (wVar 2) (wVar 4)) (wVar 5)) (wVar 11))) [10, 11])) [4]) 2))))))))
    (wRet (wLc (wSeqI (wVar 2)) (gN 13) wYes (wSl (wVar 13) (wPart (wVar 1)) wNoPart) [13])))))
abbrev k__law_undone : Nat := 1
/-! _law_place: slots 0 inverse, 1 point, 2 x, 3 row, 4 a -/
abbrev N__law_place : List Str := [("inverse" : Str), ("point" : Str), ("x" : Str), ("row" : Str), ("a" : Str)]
abbrev p__law_place : List Str := [("inverse" : Str), ("point" : Str)]
def t__law_place (K : PySem.W.Frag) : WS :=
  (wRet (wCB gTuple (wCons (wLc (wRng1 (wCons (wCB gLen (wCons (wVar 0) wNil)) wNil)) (gN 4) wYes (wCB gSum (wCons (wLc (wZipI (wCons (wVar 1) (wCons (wVar 0) wNil))) (gT 2 (gsCons (gN 2) (gsCons (gN 3) gsNil))) wYes (wOp gMulX (wVar 2) (wOp gIx (wVar 3) (wVar 4))) [2, 3]) wNil)) [4]) wNil)))
abbrev k__law_place : Nat := 1
/-! _law_home: slots 0 place, 1 sides, 2 u, 3 side -/
abbrev N__law_home : List Str := [("place" : Str), ("sides" : Str), ("u" : Str), ("side" : Str)]
abbrev p__law_home : List Str := [("place" : Str), ("sides" : Str)]
def t__law_home (K : PySem.W.Frag) : WS :=
  (wRet (wCB gTuple (wCons (wLc (wZipI (wCons (wVar 0) (wCons (wVar 1) wNil))) (gT 2 (gsCons (gN 2) (gsCons (gN 3) gsNil))) wYes (wOp gDivX (wVar 2) (wVar 3)) [2, 3]) wNil)))
abbrev k__law_home : Nat := 1
/-! _law_parts: slots 0 inverse, 1 sides, 2 points, 3 found, 4 point, 5 place, 6 lot, 7 home -/
abbrev N__law_parts : List Str := [("inverse" : Str), ("sides" : Str), ("points" : Str), ("found" : Str), ("point" : Str), ("place" : Str), ("lot" : Str), ("home" : Str)]
abbrev p__law_parts : List Str := [("inverse" : Str), ("sides" : Str), ("points" : Str)]
def t__law_parts (K : PySem.W.Frag) : WS :=
  (wSeq (wAsg wNewT 3)
    (wSeq (wFor (wSeqI (wVar 2)) (gN 4) (wSeq (wAsg (wCall (sp__law_place K) (wCons (wVar 0) (wCons (wVar 4) wNil))) 5)
    (wSeq (wAsg (wDSetdT (wVar 3) (wCall (sp__law_home K) (wCons (wVar 5) (wCons (wVar 1) wNil))) (wLstM wNil)) 6)
    (wDrop (wBM "list" gApp (wVar 6) (wCons (wTup (wCons (wVar 5) (wCons (wVar 4) wNil))) wNil))))))
    (wRet (wLc (wSeqI (wCB gSortDT (wCons (wVar 3) wNil))) (gN 7) wYes (wTup (wCons (wVar 7) (wCons (wLc (wSeqI (wCB gSort (wCons (wOp gDGet (wVar 3) (wVar 7)) wNil))) (gT 2 (gsCons (gN 5) (gsCons (gN 4) gsNil))) wYes (wVar 4) [5, 4]) wNil))) [7]))))
abbrev k__law_parts : Nat := 2
/-! _law_other: slots 0 bag, 1 nest, 2 way, 3 names, 4 touches, 5 subs, 6 own -/
abbrev N__law_other : List Str := [("bag" : Str), ("nest" : Str), ("way" : Str), ("names" : Str), ("touches" : Str), ("subs" : Str), ("own" : Str)]
abbrev p__law_other : List Str := [("bag" : Str), ("nest" : Str)]
def t__law_other_r1 (K : PySem.W.Frag) : WS :=
  (wRet (wTup (wCons (wOp gPlus (wSl (wVar 3) wNoPart (wPart (wUn gNeg (wC (.int 1))))) (wLst (wCons (wOp gIx (wLc (wSeqI (wLst (wCons (wC (.str ("x" : Str))) (wCons (wC (.str ("u0" : Str))) (wCons (wC (.str ("y" : Str))) (wCons (wC (.str ("w" : Str))) (wCons (wC (.str ("v" : Str))) wNil))))))) (gN 6) (wTest (wOp (gIn true) (wVar 6) (wVar 3))) (wVar 6) [6]) (wC (.int 0))) wNil))) (wCons (wVar 4) wNil))))
def t__law_other (K : PySem.W.Frag) : WS :=
  (wSeq (wAsgG (wTup (wCons (wCall (sp__law_draw K) (wCons (wVar 0) (wCons (wC (.int 3)) wNil))) (wCons (wOp gIx (wVar 1) (wC (.int 0))) (wCons (wOp gIx (wVar 1) (wC (.int 1))) wNil)))) (gT 3 (gsCons (gN 2) (gsCons (gN 3) (gsCons (gN 4) gsNil)))))
    (wSeq (wIfS (wTest (wOp gEq (wVar 2) (wC (.int 0)))) (wRet (wTup (wCons (wVar 3) (wCons (wOp gPlus (wVar 4) (wLst (wCons (wOp gIx (wVar 4) (wC (.int 0))) wNil))) wNil)))) wNext)
    (wSeq (wIfS (wAnd (wTest (wOp gEq (wVar 2) (wC (.int 1)))) (wTru (wOp gIx (wOp gIx (wVar 4) (wUn gNeg (wC (.int 1)))) (wC (.int 1))))) (wSeq (wAsg (wOp gIx (wOp gIx (wVar 4) (wUn gNeg (wC (.int 1)))) (wC (.int 1))) 5)
    (wRet (wTup (wCons (wVar 3) (wCons (wOp gPlus (wSl (wVar 4) wNoPart (wPart (wUn gNeg (wC (.int 1))))) (wLst (wCons (wTup (wCons (wOp gIx (wOp gIx (wVar 4) (wUn gNeg (wC (.int 1)))) (wC (.int 0))) (wCons (wOp gPlus (wLst (wCons (wTup (wCons (wOp gIx (wOp gIx (wVar 5) (wC (.int 0))) (wC (.int 0))) (wCons (wOp gPlus (wOp gIx (wOp gIx (wVar 5) (wC (.int 0))) (wC (.int 1))) (wC (.int 1))) wNil))) wNil)) (wCB gList (wCons (wSl (wVar 5) (wPart (wC (.int 1))) wNoPart) wNil))) wNil))) wNil))) wNil))))) wNext)
    (t__law_other_r1 K))))
abbrev k__law_other : Nat := 2
/-! row_text: slots 0 row, 1 value -/
abbrev N_row_text : List Str := [("row" : Str), ("value" : Str)]
abbrev p_row_text : List Str := [("row" : Str)]
def t_row_text (K : PySem.W.Frag) : WS :=
  (wRet (wBM "str" gJoin (wC (.str (" " : Str))) (wCons (wLc (wSeqI (wVar 0)) (gN 1) wYes (wCall (sp_integer_text K) (wCons (wVar 1) wNil)) [1]) wNil)))
abbrev k_row_text : Nat := 2
/-! rows_text: slots 0 rows, 1 row -/
abbrev N_rows_text : List Str := [("rows" : Str), ("row" : Str)]
abbrev p_rows_text : List Str := [("rows" : Str)]
def t_rows_text_r1 (K : PySem.W.Frag) : WS :=
  (wRet (wBM "str" gJoin (wC (.str (" , " : Str))) (wCons (wLc (wSeqI (wVar 0)) (gN 1) wYes (wCall (sp_row_text K) (wCons (wVar 1) wNil)) [1]) wNil)))
def t_rows_text (K : PySem.W.Frag) : WS :=
  (wSeq (wIfS (wNot (wTru (wVar 0))) (wRet (wC (.str ("none" : Str)))) wNext)
    (t_rows_text_r1 K))
abbrev k_rows_text : Nat := 3
/-! Lot.__init__: slots 0 self, 1 nest, 2 points, 3 at, 4 point -/
abbrev N_Lot_init : List Str := [("self" : Str), ("nest" : Str), ("points" : Str), ("at" : Str), ("point" : Str)]
abbrev p_Lot_init : List Str := [("self" : Str), ("nest" : Str), ("points" : Str)]
def t_Lot_init (K : PySem.W.Frag) : WS :=
  (wSeq (wFor (wEnumI (wCons (wVar 2) wNil)) (gT 2 (gsCons (gN 3) (gsCons (gN 4) gsNil))) (wIfS (wTest (wOp gNe (wCB gLen (wCons (wVar 4) wNil)) (wFld (He.ga K ("Nest" : Str)) ("deep" : Str) (wVar 1)))) wNever wNext))
    (wSeq (wSetF (He.ga K ("Lot" : Str)) ("nest" : Str) (wVar 0) (wVar 1))
    (wSeq (wSetF (He.ga K ("Lot" : Str)) ("_points" : Str) (wVar 0) (wSortSc (wSeqI (wVar 2)) (gN 4) wYes (wCB gTuple (wCons (wVar 4) wNil)) [4]))
    (wSeq (wSetF (He.ga K ("Lot" : Str)) ("_known" : Str) (wVar 0) (wDc keyT (wSeqI (wFld (He.ga K ("Lot" : Str)) ("_points" : Str) (wVar 0))) (gN 4) wYes (wVar 4) (wC (.bl true)) [4]))
    (wSetF (He.ga K ("Lot" : Str)) ("text" : Str) (wVar 0) (wCall (sp_rows_text K) (wCons (wFld (He.ga K ("Lot" : Str)) ("_points" : Str) (wVar 0)) wNil)))))))
abbrev k_Lot_init : Nat := 4
/-! Lot.points: slots 0 self -/
abbrev N_Lot_points : List Str := [("self" : Str)]
abbrev p_Lot_points : List Str := [("self" : Str)]
def t_Lot_points (K : PySem.W.Frag) : WS :=
  (wRet (wCB gList (wCons (wFld (He.ga K ("Lot" : Str)) ("_points" : Str) (wVar 0)) wNil)))
abbrev k_Lot_points : Nat := 1
/-! look_alike: slots 0 one, 1 other -/
abbrev N_look_alike : List Str := [("one" : Str), ("other" : Str)]
abbrev p_look_alike : List Str := [("one" : Str), ("other" : Str)]
def t_look_alike (K : PySem.W.Frag) : WS :=
  (wIfS (wNot (wTest (wOp (gOwn (He.ga K ("Nest" : Str)) (sp_Nest_eq K)) (wFld (He.ga K ("Lot" : Str)) ("nest" : Str) (wVar 0)) (wFld (He.ga K ("Lot" : Str)) ("nest" : Str) (wVar 1))))) wNever wNext)
abbrev k_look_alike : Nat := 2
/-! Lot.__sub__: slots 0 self, 1 other, 2 point -/
abbrev N_Lot_sub : List Str := [("self" : Str), ("other" : Str), ("point" : Str)]
abbrev p_Lot_sub : List Str := [("self" : Str), ("other" : Str)]
def t_Lot_sub (K : PySem.W.Frag) : WS :=
  (wSeq (wDrop (wCall (sp_look_alike K) (wCons (wVar 0) (wCons (wVar 1) wNil))))
    (wRet (wFrz (wMake (He.ga K ("Lot" : Str)) (sp_Lot_init K) (wCons (wFld (He.ga K ("Lot" : Str)) ("nest" : Str) (wVar 0)) (wCons (wLc (wSeqI (wFld (He.ga K ("Lot" : Str)) ("_points" : Str) (wVar 0))) (gN 2) (wTest (wOp (gDIn true) (wVar 2) (wFld (He.ga K ("Lot" : Str)) ("_known" : Str) (wVar 1)))) (wVar 2) [2]) wNil))))))
abbrev k_Lot_sub : Nat := 6
/-! Lot.__and__: slots 0 self, 1 other, 2 point -/
abbrev N_Lot_and : List Str := [("self" : Str), ("other" : Str), ("point" : Str)]
abbrev p_Lot_and : List Str := [("self" : Str), ("other" : Str)]
def t_Lot_and (K : PySem.W.Frag) : WS :=
  (wSeq (wDrop (wCall (sp_look_alike K) (wCons (wVar 0) (wCons (wVar 1) wNil))))
    (wRet (wFrz (wMake (He.ga K ("Lot" : Str)) (sp_Lot_init K) (wCons (wFld (He.ga K ("Lot" : Str)) ("nest" : Str) (wVar 0)) (wCons (wLc (wSeqI (wFld (He.ga K ("Lot" : Str)) ("_points" : Str) (wVar 0))) (gN 2) (wTest (wOp (gDIn false) (wVar 2) (wFld (He.ga K ("Lot" : Str)) ("_known" : Str) (wVar 1)))) (wVar 2) [2]) wNil))))))
abbrev k_Lot_and : Nat := 6
/-! determinant: slots 0 rows, 1 before, 2 left, 3 row, 4 heads, 5 at, 6 lead, 7 others, 8 place -/
abbrev N_determinant : List Str := [("rows" : Str), ("before" : Str), ("left" : Str), ("row" : Str), ("heads" : Str), ("at" : Str), ("lead" : Str), ("others" : Str), ("place" : Str)]
abbrev p_determinant : List Str := [("rows" : Str)]
def t_determinant (K : PySem.W.Frag) : WS :=
  (wSeq (wAsg (wC (.int 1)) 1)
    (wSeq (wAsg (wLc (wSeqI (wVar 0)) (gN 3) wYes (wCB gList (wCons (wVar 3) wNil)) [3]) 2)
    (wSeq (wWhile (wTru (wVar 2)) (wSeq (wAsg (wLc (wEnumI (wCons (wVar 2) wNil)) (gT 2 (gsCons (gN 5) (gsCons (gN 3) gsNil))) (wTest (wOp gNe (wOp gIx (wVar 3) (wC (.int 0))) (wC (.int 0)))) (wVar 5) [5, 3]) 4)
    (wSeq (wIfS (wNot (wTru (wVar 4))) (wRet (wC (.int 0))) wNext)
    (wSeq (wAsg (wOp gIx (wVar 2) (wOp gIx (wVar 4) (wC (.int 0)))) 6)
    (wSeq (wAsg (wOp gPlus (wSl (wVar 2) wNoPart (wPart (wOp gIx (wVar 4) (wC (.int 0))))) (wSl (wVar 2) (wPart (wOp gPlus (wOp gIx (wVar 4) (wC (.int 0))) (wC (.int 1)))) wNoPart)) 7)
    (wSeq (wAsg (wLc (wSeqI (wVar 7)) (gN 3) wYes (wLc (wRng2 (wCons (wC (.int 1)) (wCons (wCB gLen (wCons (wVar 3) wNil)) wNil))) (gN 8) wYes (wOp gDivX (wOp gSub (wOp gMulX (wOp gIx (wVar 6) (wC (.int 0))) (wOp gIx (wVar 3) (wVar 8))) (wOp gMulX (wOp gIx (wVar 3) (wC (.int 0))) (wOp gIx (wVar 6) (wVar 8)))) (wVar 1)) [8]) [3]) 2)
    (wAsg (wOp gIx (wVar 6) (wC (.int 0))) 1)))))))
    (wRet (wCB gAbs (wCons (wVar 1) wNil))))))
abbrev k_determinant : Nat := 1
/-! is_basis: slots 0 deep, 1 rows, 2 row -/
abbrev N_is_basis : List Str := [("deep" : Str), ("rows" : Str), ("row" : Str)]
abbrev p_is_basis : List Str := [("deep" : Str), ("rows" : Str)]
def t_is_basis_r1 (K : PySem.W.Frag) : WS :=
  (wRet (wOp gEq (wCall (sp_determinant K) (wCons (wVar 1) wNil)) (wC (.int 1))))
def t_is_basis (K : PySem.W.Frag) : WS :=
  (wSeq (wIfS (wOr (wTest (wOp gNe (wCB gLen (wCons (wVar 1) wNil)) (wVar 0))) (wTest (wCB gAny (wCons (wLc (wSeqI (wVar 1)) (gN 2) wYes (wOp gNe (wCB gLen (wCons (wVar 2) wNil)) (wVar 0)) [2]) wNil)))) (wRet (wC (.bl false))) wNext)
    (t_is_basis_r1 K))
abbrev k_is_basis : Nat := 2
/-! check_sides: slots 0 deep, 1 sides, 2 least, 3 at, 4 side -/
abbrev N_check_sides : List Str := [("deep" : Str), ("sides" : Str), ("least" : Str), ("at" : Str), ("side" : Str)]
abbrev p_check_sides : List Str := [("deep" : Str), ("sides" : Str), ("least" : Str)]
def t_check_sides_r1 (K : PySem.W.Frag) : WS :=
  (wFor (wEnumI (wCons (wVar 1) wNil)) (gT 2 (gsCons (gN 3) (gsCons (gN 4) gsNil))) (wIfS (wTest (wOp gLt (wVar 4) (wVar 2))) wNever wNext))
def t_check_sides (K : PySem.W.Frag) : WS :=
  (wSeq (wIfS (wTest (wOp gNe (wCB gLen (wCons (wVar 1) wNil)) (wVar 0))) wNever wNext)
    (t_check_sides_r1 K))
abbrev k_check_sides : Nat := 1
/-! unit_rows: slots 0 deep, 1 at, 2 lead -/
abbrev N_unit_rows : List Str := [("deep" : Str), ("at" : Str), ("lead" : Str)]
abbrev p_unit_rows : List Str := [("deep" : Str)]
def t_unit_rows (K : PySem.W.Frag) : WS :=
  (wRet (wLc (wRng1 (wCons (wVar 0) wNil)) (gN 2) wYes (wCB gTuple (wCons (wLc (wRng1 (wCons (wVar 0) wNil)) (gN 1) wYes (wIf (wTest (wOp gEq (wVar 1) (wVar 2))) (wC (.int 1)) (wC (.int 0))) [1]) wNil)) [2]))
abbrev k_unit_rows : Nat := 1
/-! moved: slots 0 row, 1 step, 2 times, 3 item, 4 more -/
abbrev N_moved : List Str := [("row" : Str), ("step" : Str), ("times" : Str), ("item" : Str), ("more" : Str)]
abbrev p_moved : List Str := [("row" : Str), ("step" : Str), ("times" : Str)]
def t_moved (K : PySem.W.Frag) : WS :=
  (wRet (wCB gTuple (wCons (wLc (wZipI (wCons (wVar 0) (wCons (wVar 1) wNil))) (gT 2 (gsCons (gN 3) (gsCons (gN 4) gsNil))) wYes (wOp gPlus (wVar 3) (wOp gMulX (wVar 2) (wVar 4))) [3, 4]) wNil)))
abbrev k_moved : Nat := 1
/-! bring_least: slots 0 rows, 1 lead, 2 amounts, 3 at, 4 least, 5 first -/
abbrev N_bring_least : List Str := [("rows" : Str), ("lead" : Str), ("amounts" : Str), ("at" : Str), ("least" : Str), ("first" : Str)]
abbrev p_bring_least : List Str := [("rows" : Str), ("lead" : Str)]
def t_bring_least (K : PySem.W.Frag) : WS :=
  (wSeq (wAsg (wLc (wRng2 (wCons (wVar 1) (wCons (wCB gLen (wCons (wVar 0) wNil)) wNil))) (gN 3) (wTest (wOp gNe (wOp gIx (wOp gIx (wVar 0) (wVar 3)) (wVar 1)) (wC (.int 0)))) (wTup (wCons (wCB gAbs (wCons (wOp gIx (wOp gIx (wVar 0) (wVar 3)) (wVar 1)) wNil)) (wCons (wVar 3) wNil))) [3]) 2)
    (wSeq (wAsg (wOp gIx (wCB gMinD (wCons (wVar 2) wNil)) (wC (.int 1))) 4)
    (wSeq (wAsg (wOp gIx (wVar 0) (wVar 1)) 5)
    (wSeq (wSetI (wVar 0) (wVar 1) (wOp gIx (wVar 0) (wVar 4)))
    (wSetI (wVar 0) (wVar 4) (wVar 5))))))
abbrev k_bring_least : Nat := 1
/-! settle: slots 0 rows, 1 lead, 2 row, 3 at, 4 item -/
abbrev N_settle : List Str := [("rows" : Str), ("lead" : Str), ("row" : Str), ("at" : Str), ("item" : Str)]
abbrev p_settle : List Str := [("rows" : Str), ("lead" : Str)]
def t_settle_r1 (K : PySem.W.Frag) : WS :=
  (wFor (wRng1 (wCons (wVar 1) wNil)) (gN 3) (wSetI (wVar 0) (wVar 3) (wCall (sp_moved K) (wCons (wOp gIx (wVar 0) (wVar 3)) (wCons (wOp gIx (wVar 0) (wVar 1)) (wCons (wUn gNeg (wOp gIx (wOp gIx (wVar 0) (wVar 3)) (wVar 1))) wNil))))))
def t_settle (K : PySem.W.Frag) : WS :=
  (wSeq (wDrop (wCall (sp_bring_least K) (wCons (wVar 0) (wCons (wVar 1) wNil))))
    (wSeq (wWhile (wTru (wLc (wSeqI (wSl (wVar 0) (wPart (wOp gPlus (wVar 1) (wC (.int 1)))) wNoPart)) (gN 2) (wTest (wOp gNe (wOp gIx (wVar 2) (wVar 1)) (wC (.int 0)))) (wVar 2) [2])) (wSeq (wFor (wRng2 (wCons (wOp gPlus (wVar 1) (wC (.int 1))) (wCons (wCB gLen (wCons (wVar 0) wNil)) wNil))) (gN 3) (wSetI (wVar 0) (wVar 3) (wCall (sp_moved K) (wCons (wOp gIx (wVar 0) (wVar 3)) (wCons (wOp gIx (wVar 0) (wVar 1)) (wCons (wUn gNeg (wOp gDivX (wOp gIx (wOp gIx (wVar 0) (wVar 3)) (wVar 1)) (wOp gIx (wOp gIx (wVar 0) (wVar 1)) (wVar 1)))) wNil))))))
    (wDrop (wCall (sp_bring_least K) (wCons (wVar 0) (wCons (wVar 1) wNil))))))
    (wSeq (wIfS (wTest (wOp gLt (wOp gIx (wOp gIx (wVar 0) (wVar 1)) (wVar 1)) (wC (.int 0)))) (wSetI (wVar 0) (wVar 1) (wCB gTuple (wCons (wLc (wSeqI (wOp gIx (wVar 0) (wVar 1))) (gN 4) wYes (wUn gNeg (wVar 4)) [4]) wNil))) wNext)
    (t_settle_r1 K))))
abbrev k_settle : Nat := 2
/-! dual_rows: slots 0 basis, 1 deep, 2 rows, 3 at, 4 unit, 5 lead, 6 row -/
abbrev N_dual_rows : List Str := [("basis" : Str), ("deep" : Str), ("rows" : Str), ("at" : Str), ("unit" : Str), ("lead" : Str), ("row" : Str)]
abbrev p_dual_rows : List Str := [("basis" : Str)]
def t_dual_rows (K : PySem.W.Frag) : WS :=
  (wSeq (wAsg (wCB gLen (wCons (wVar 0) wNil)) 1)
    (wSeq (wAsg (wLcM (wEnumI (wCons (wCall (sp_unit_rows K) (wCons (wVar 1) wNil)) wNil)) (gT 2 (gsCons (gN 3) (gsCons (gN 4) gsNil))) wYes (wOp gPlus (wOp gIx (wVar 0) (wVar 3)) (wVar 4)) [3, 4]) 2)
    (wSeq (wFor (wRng1 (wCons (wVar 1) wNil)) (gN 5) (wDrop (wCall (sp_settle K) (wCons (wVar 2) (wCons (wVar 5) wNil)))))
    (wRet (wLc (wRng1 (wCons (wVar 1) wNil)) (gN 3) wYes (wCB gTuple (wCons (wLc (wSeqI (wVar 2)) (gN 6) wYes (wOp gIx (wVar 6) (wOp gPlus (wVar 1) (wVar 3))) [6]) wNil)) [3])))))
abbrev k_dual_rows : Nat := 3
/-! Block.__init__: slots 0 self, 1 nest, 2 basis, 3 sides, 4 rows, 5 row, 6 at, 7 side -/
abbrev N_Block_init : List Str := [("self" : Str), ("nest" : Str), ("basis" : Str), ("sides" : Str), ("rows" : Str), ("row" : Str), ("at" : Str), ("side" : Str)]
abbrev p_Block_init : List Str := [("self" : Str), ("nest" : Str), ("basis" : Str), ("sides" : Str)]
def t_Block_init (K : PySem.W.Frag) : WS :=
  (wSeq (wAsg (wLc (wSeqI (wVar 2)) (gN 5) wYes (wCB gTuple (wCons (wVar 5) wNil)) [5]) 4)
    (wSeq (wFor (wEnumI (wCons (wVar 4) wNil)) (gT 2 (gsCons (gN 6) (gsCons (gN 5) gsNil))) (wIfS (wTest (wOp gNe (wCB gLen (wCons (wVar 5) wNil)) (wFld (He.ga K ("Nest" : Str)) ("deep" : Str) (wVar 1)))) wNever wNext))
    (wSeq (wIfS (wNot (wTru (wCall (sp_is_basis K) (wCons (wFld (He.ga K ("Nest" : Str)) ("deep" : Str) (wVar 1)) (wCons (wVar 4) wNil))))) wNever wNext)
    (wSeq (wDrop (wCall (sp_check_sides K) (wCons (wFld (He.ga K ("Nest" : Str)) ("deep" : Str) (wVar 1)) (wCons (wVar 3) (wCons (wC (.int 1)) wNil)))))
    (wSeq (wSetF (He.ga K ("Block" : Str)) ("nest" : Str) (wVar 0) (wVar 1))
    (wSeq (wSetF (He.ga K ("Block" : Str)) ("size" : Str) (wVar 0) (wC (.int 1)))
    (wSeq (wFor (wSeqI (wVar 3)) (gN 7) (wSetF (He.ga K ("Block" : Str)) ("size" : Str) (wVar 0) (wOp gMulX (wFld (He.ga K ("Block" : Str)) ("size" : Str) (wVar 0)) (wVar 7))))
    (wSeq (wSetF (He.ga K ("Block" : Str)) ("_basis" : Str) (wVar 0) (wVar 4))
    (wSeq (wSetF (He.ga K ("Block" : Str)) ("_sides" : Str) (wVar 0) (wCB gList (wCons (wVar 3) wNil)))
    (wSetF (He.ga K ("Block" : Str)) ("_duals" : Str) (wVar 0) (wCall (sp_dual_rows K) (wCons (wVar 4) wNil))))))))))))
abbrev k_Block_init : Nat := 4
/-! Block.sides: slots 0 self -/
abbrev N_Block_sides : List Str := [("self" : Str)]
abbrev p_Block_sides : List Str := [("self" : Str)]
def t_Block_sides (K : PySem.W.Frag) : WS :=
  (wRet (wCB gList (wCons (wFld (He.ga K ("Block" : Str)) ("_sides" : Str) (wVar 0)) wNil)))
abbrev k_Block_sides : Nat := 1
/-! dot: slots 0 one, 1 other, 2 left, 3 right -/
abbrev N_dot : List Str := [("one" : Str), ("other" : Str), ("left" : Str), ("right" : Str)]
abbrev p_dot : List Str := [("one" : Str), ("other" : Str)]
def t_dot (K : PySem.W.Frag) : WS :=
  (wRet (wCB gSum (wCons (wLc (wZipI (wCons (wVar 0) (wCons (wVar 1) wNil))) (gT 2 (gsCons (gN 2) (gsCons (gN 3) gsNil))) wYes (wOp gMulX (wVar 2) (wVar 3)) [2, 3]) wNil)))
abbrev k_dot : Nat := 1
/-! Block.place: slots 0 self, 1 point, 2 dual -/
abbrev N_Block_place : List Str := [("self" : Str), ("point" : Str), ("dual" : Str)]
abbrev p_Block_place : List Str := [("self" : Str), ("point" : Str)]
def t_Block_place_r1 (K : PySem.W.Frag) : WS :=
  (wRet (wCB gTuple (wCons (wLc (wSeqI (wFld (He.ga K ("Block" : Str)) ("_duals" : Str) (wVar 0))) (gN 2) wYes (wCall (sp_dot K) (wCons (wVar 2) (wCons (wVar 1) wNil))) [2]) wNil)))
def t_Block_place (K : PySem.W.Frag) : WS :=
  (wSeq (wIfS (wTest (wOp gNe (wCB gLen (wCons (wVar 1) wNil)) (wFld (He.ga K ("Nest" : Str)) ("deep" : Str) (wFld (He.ga K ("Block" : Str)) ("nest" : Str) (wVar 0))))) wNever wNext)
    (t_Block_place_r1 K))
abbrev k_Block_place : Nat := 2
/-! Block.home: slots 0 self, 1 point, 2 place, 3 side -/
abbrev N_Block_home : List Str := [("self" : Str), ("point" : Str), ("place" : Str), ("side" : Str)]
abbrev p_Block_home : List Str := [("self" : Str), ("point" : Str)]
def t_Block_home (K : PySem.W.Frag) : WS :=
  (wRet (wCB gTuple (wCons (wLc (wZipI (wCons (wMeth (He.ga K ("Block" : Str)) ("place" : Str) (sp_Block_place K) (wVar 0) (wCons (wVar 1) wNil)) (wCons (wFld (He.ga K ("Block" : Str)) ("_sides" : Str) (wVar 0)) wNil))) (gT 2 (gsCons (gN 2) (gsCons (gN 3) gsNil))) wYes (wOp gDivX (wVar 2) (wVar 3)) [2, 3]) wNil)))
abbrev k_Block_home : Nat := 3
/-! parts: slots 0 lot, 1 block, 2 sides, 3 rows, 4 point, 5 place, 6 home, 7 u, 8 side, 9 told, 10 _ -/
abbrev N_parts : List Str := [("lot" : Str), ("block" : Str), ("sides" : Str), ("rows" : Str), ("point" : Str), ("place" : Str), ("home" : Str), ("u" : Str), ("side" : Str), ("told" : Str), ("_" : Str)]
abbrev p_parts : List Str := [("lot" : Str), ("block" : Str)]
def t_parts_r1 (K : PySem.W.Frag) : WS :=
  (wDrop (wBM "list" gApp (wVar 9) (wCons (wTup (wCons (wVar 6) (wCons (wLstM (wCons (wVar 4) wNil)) wNil))) wNil)))
def t_parts (K : PySem.W.Frag) : WS :=
  (wSeq (wIfS (wNot (wTest (wOp (gOwn (He.ga K ("Nest" : Str)) (sp_Nest_eq K)) (wFld (He.ga K ("Lot" : Str)) ("nest" : Str) (wVar 0)) (wFld (He.ga K ("Block" : Str)) ("nest" : Str) (wVar 1))))) wNever wNext)
    (wSeq (wAsg (wMeth (He.ga K ("Block" : Str)) ("sides" : Str) (sp_Block_sides K) (wVar 1) wNil) 2)
    (wSeq (wAsg (wLstM wNil) 3)
    (wSeq (wFor (wSeqI (wMeth (He.ga K ("Lot" : Str)) ("points" : Str) (sp_Lot_points K) (wVar 0) wNil)) (gN 4) (wSeq (wAsg (wMeth (He.ga K ("Block" : Str)) ("place" : Str) (sp_Block_place K) (wVar 1) (wCons (wVar 4) wNil)) 5)
    (wSeq (wAsg (wCB gTuple (wCons (wLc (wZipI (wCons (wVar 5) (wCons (wVar 2) wNil))) (gT 2 (gsCons (gN 7) (gsCons (gN 8) gsNil))) wYes (wOp gDivX (wVar 7) (wVar 8)) [7, 8]) wNil)) 6)
    (wDrop (wBM "list" gApp (wVar 3) (wCons (wTup (wCons (wVar 6) (wCons (wVar 5) (wCons (wVar 4) wNil)))) wNil))))))
    (wSeq (wAsg (wLstM wNil) 9)
    (wSeq (wFor (wSeqI (wCB gSort (wCons (wVar 3) wNil))) (gT 3 (gsCons (gN 6) (gsCons (gN 10) (gsCons (gN 4) gsNil)))) (wIfS (wAnd (wTru (wVar 9)) (wTest (wOp gEqD (wOp gIx (wOp gIx (wVar 9) (wUn gNeg (wC (.int 1)))) (wC (.int 0))) (wVar 6)))) (wDrop (wBM "list" gApp (wOp gIx (wOp gIx (wVar 9) (wUn gNeg (wC (.int 1)))) (wC (.int 1))) (wCons (wVar 4) wNil))) (t_parts_r1 K)))
    (wRet (wVar 9))))))))
abbrev k_parts : Nat := 3
/-! _law_places_told: slots 0 cut, 1 due, 2 inverse, 3 home, 4 lot, 5 point -/
abbrev N__law_places_told : List Str := [("cut" : Str), ("due" : Str), ("inverse" : Str), ("home" : Str), ("lot" : Str), ("point" : Str)]
abbrev p__law_places_told : List Str := [("cut" : Str), ("due" : Str), ("inverse" : Str)]
def t__law_places_told (K : PySem.W.Frag) : WS :=
  (wSeq (wFor (wSeqI (wVar 1)) (gT 2 (gsCons (gN 3) (gsCons (gN 4) gsNil))) (wFor (wSeqI (wVar 4)) (gN 5) (wIfS (wNot (wTru (wCall (sp__law_same K) (wCons (wLst (wCons (wMeth (He.ga K ("Block" : Str)) ("home" : Str) (sp_Block_home K) (wVar 0) (wCons (wVar 5) wNil)) (wCons (wMeth (He.ga K ("Block" : Str)) ("place" : Str) (sp_Block_place K) (wVar 0) (wCons (wVar 5) wNil)) wNil))) (wCons (wLst (wCons (wVar 3) (wCons (wCall (sp__law_place K) (wCons (wVar 2) (wCons (wVar 5) wNil))) wNil))) wNil))))) (wRet (wC (.bl false))) wNext)))
    (wRet (wC (.bl true))))
abbrev k__law_places_told : Nat := 8
/-! law: slots 0 script, 1 bag, 2 deep, 3 nest, 4 rows, 5 inverse, 6 sides, 7 others, 8 k, 9 points, 10 due, 11 again, 12 given, 13 lot, 14 cut, 15 cross, 16 told, 17 inner, 18 some, 19 part, 20 point, 21 other, 22 strange, 23 foreign -/
abbrev N_law : List Str := [("script" : Str), ("bag" : Str), ("deep" : Str), ("nest" : Str), ("rows" : Str), ("inverse" : Str), ("sides" : Str), ("others" : Str), ("k" : Str), ("points" : Str), ("due" : Str), ("again" : Str), ("given" : Str), ("lot" : Str), ("cut" : Str), ("cross" : Str), ("told" : Str), ("inner" : Str), ("some" : Str), ("part" : Str), ("point" : Str), ("other" : Str), ("strange" : Str), ("foreign" : Str)]
abbrev p_law : List Str := [("script" : Str)]
def t_law_k22 (K : PySem.W.Frag) : WS := wSeq (wAsgG (wTup (wCons (wFrz (wMake (He.ga K ("Block" : Str)) (sp_Block_init K) (wCons (wCall (sp__law_copied K) (wCons (wVar 21) wNil)) (wCons (wCB gList (wCons (wVar 4) wNil)) (wCons (wCB gList (wCons (wVar 6) wNil)) wNil))))) (wCons (wFrz (wMake (He.ga K ("Lot" : Str)) (sp_Lot_init K) (wCons (wCall (sp__law_copied K) (wCons (wVar 21) wNil)) (wCons (wCB gList (wCons (wVar 9) wNil)) wNil)))) wNil))) (gT 2 (gsCons (gN 22) (gsCons (gN 23) gsNil)))) wNext
def t_law_k21 (K : PySem.W.Frag) : WS := wSeq (wAsg (wCall (sp__law_other K) (wCons (wVar 1) (wCons (wVar 3) wNil))) 21) (t_law_k22 K)
def t_law_k20 (K : PySem.W.Frag) : WS := wSeq (wIfS (wOr (wNot (wTru (wCall (sp__law_same K) (wCons (wCall (sp_parts K) (wCons (wOp (gOwn (He.ga K ("Lot" : Str)) (sp_Lot_and K)) (wVar 13) (wVar 19)) (wCons (wVar 15) wNil))) (wCons (wCall (sp__law_parts K) (wCons (wVar 5) (wCons (wVar 7) (wCons (wVar 18) wNil)))) wNil))))) (wNot (wTru (wCall (sp__law_same K) (wCons (wCall (sp_parts K) (wCons (wVar 13) (wCons (wVar 14) wNil))) (wCons (wVar 10) wNil)))))) (wRet (wC (.bl false))) wNext) (t_law_k21 K)
def t_law_k19 (K : PySem.W.Frag) : WS := wSeq (wIfS (wNot (wTru (wCall (sp__law_same K) (wCons (wCall (sp_parts K) (wCons (wOp (gOwn (He.ga K ("Lot" : Str)) (sp_Lot_sub K)) (wVar 13) (wVar 19)) (wCons (wVar 14) wNil))) (wCons (wCall (sp__law_parts K) (wCons (wVar 5) (wCons (wVar 6) (wCons (wLc (wSeqI (wVar 9)) (gN 20) (wTest (wOp (gInD true) (wVar 20) (wVar 18))) (wVar 20) [20]) wNil)))) wNil))))) (wRet (wC (.bl false))) wNext) (t_law_k20 K)
def t_law_k18 (K : PySem.W.Frag) : WS := wSeq (wThaw 18 (wAsg (wFrz (wMake (He.ga K ("Lot" : Str)) (sp_Lot_init K) (wCons (wCall (sp__law_copied K) (wCons (wVar 3) wNil)) (wCons (wVar 18) wNil)))) 19)) (t_law_k19 K)
def t_law_k17 (K : PySem.W.Frag) : WS := wSeq (wAsg (wCall (sp__law_pick K) (wCons (wVar 1) (wCons (wVar 9) (wCons (wCall (sp__law_draw K) (wCons (wVar 1) (wCons (wOp gPlus (wCB gLen (wCons (wVar 9) wNil)) (wC (.int 1))) wNil))) wNil)))) 18) (t_law_k18 K)
def t_law_k16 (K : PySem.W.Frag) : WS := wSeq (wIfS (wOr (wNot (wTru (wCall (sp__law_same K) (wCons (wCall (sp_parts K) (wCons (wVar 13) (wCons (wVar 14) wNil))) (wCons (wVar 10) wNil))))) (wNot (wTru (wCall (sp__law_same K) (wCons (wCall (sp_parts K) (wCons (wVar 13) (wCons (wVar 15) wNil))) (wCons (wVar 11) wNil)))))) (wRet (wC (.bl false))) wNext) (t_law_k17 K)
def t_law_k15 (K : PySem.W.Frag) : WS := wSeq (wDrop (wBM "list" gApp (wVar 16) (wCons (wC .non) wNil))) (t_law_k16 K)
def t_law_k14 (K : PySem.W.Frag) : WS := wSeq (wIfS (wTru (wVar 16)) (wSeq (wAsg (wOp gIx (wOp gIx (wVar 16) (wUn gNeg (wC (.int 1)))) (wC (.int 1))) 17)
    (wDrop (wBM "list" gApp (wVar 17) (wCons (wOp gIx (wVar 17) (wC (.int 0))) wNil)))) wNext) (t_law_k15 K)
def t_law_k13 (K : PySem.W.Frag) : WS := wSeq (wIfS (wOr (wNot (wTru (wCall (sp__law_same K) (wCons (wVar 16) (wCons (wVar 10) wNil))))) (wOr (wNot (wTru (wCall (sp__law_same K) (wCons (wCall (sp_parts K) (wCons (wVar 13) (wCons (wVar 15) wNil))) (wCons (wVar 11) wNil))))) (wNot (wTru (wCall (sp__law_places_told K) (wCons (wVar 14) (wCons (wVar 10) (wCons (wVar 5) wNil)))))))) (wRet (wC (.bl false))) wNext) (t_law_k14 K)
def t_law_k12 (K : PySem.W.Frag) : WS := wSeq (wAsg (wCall (sp_parts K) (wCons (wVar 13) (wCons (wVar 14) wNil))) 16) (t_law_k13 K)
def t_law_k11 (K : PySem.W.Frag) : WS := wSeq (wAsgG (wTup (wCons (wFrz (wMake (He.ga K ("Block" : Str)) (sp_Block_init K) (wCons (wCall (sp__law_copied K) (wCons (wVar 3) wNil)) (wCons (wCB gList (wCons (wVar 4) wNil)) (wCons (wCB gList (wCons (wVar 6) wNil)) wNil))))) (wCons (wFrz (wMake (He.ga K ("Block" : Str)) (sp_Block_init K) (wCons (wCall (sp__law_copied K) (wCons (wVar 3) wNil)) (wCons (wCB gList (wCons (wVar 4) wNil)) (wCons (wCB gList (wCons (wVar 7) wNil)) wNil))))) wNil))) (gT 2 (gsCons (gN 14) (gsCons (gN 15) gsNil)))) (t_law_k12 K)
def t_law_k10 (K : PySem.W.Frag) : WS := wSeq (wDrop (wBM "list" gClear (wVar 12) wNil)) (t_law_k11 K)
def t_law_k9 (K : PySem.W.Frag) : WS := wSeq (wAsg (wFrz (wMake (He.ga K ("Lot" : Str)) (sp_Lot_init K) (wCons (wCall (sp__law_copied K) (wCons (wVar 3) wNil)) (wCons (wVar 12) wNil)))) 13) (t_law_k10 K)
def t_law_k8 (K : PySem.W.Frag) : WS := wSeq (wAsg (wCall (sp__law_pick K) (wCons (wVar 1) (wCons (wOp gPlus (wVar 9) (wSl (wVar 9) wNoPart (wPart (wC (.int 3))))) (wCons (wOp gPlus (wCB gLen (wCons (wVar 9) wNil)) (wC (.int 3))) wNil)))) 12) (t_law_k9 K)
def t_law_k7 (K : PySem.W.Frag) : WS := wSeq (wPar 10 11 (wCons (wCall (sp__law_parts K) (wCons (wVar 5) (wCons (wVar 6) (wCons (wVar 9) wNil)))) (wCons (wCall (sp__law_parts K) (wCons (wVar 5) (wCons (wVar 7) (wCons (wVar 9) wNil)))) wNil))) (t_law_k8 K)
def t_law_k6 (K : PySem.W.Frag) : WS := wSeq (wAsg (wCall (sp__law_points K) (wCons (wVar 1) (wCons (wVar 2) (wCons (wCall (sp__law_of K) (wCons (wVar 1) (wCons (wLst (wCons (wC (.int 20)) (wCons (wC (.int 35)) (wCons (wC (.int 8)) (wCons (wC (.int 1)) (wCons (wC (.int 0)) (wCons (wC (.int 60)) wNil))))))) wNil))) wNil)))) 9) (t_law_k7 K)
def t_law_k5 (K : PySem.W.Frag) : WS := wSeq (wPar 6 7 (wCons (wLc (wRng1 (wCons (wVar 2) wNil)) (gN 8) wYes (wCall (sp__law_of K) (wCons (wVar 1) (wCons (wLst (wCons (wC (.int 2)) (wCons (wC (.int 1)) (wCons (wC (.int 3)) (wCons (wC (.int 4)) (wCons (wC (.int 20)) wNil)))))) wNil))) [8]) (wCons (wLc (wRng1 (wCons (wVar 2) wNil)) (gN 8) wYes (wCall (sp__law_of K) (wCons (wVar 1) (wCons (wLst (wCons (wC (.int 1)) (wCons (wC (.int 2)) (wCons (wC (.int 5)) (wCons (wC (.int 3)) wNil))))) wNil))) [8]) wNil))) (t_law_k6 K)
def t_law_k4 (K : PySem.W.Frag) : WS := wSeq (wAsg (wCall (sp__law_undone K) (wCons (wVar 4) wNil)) 5) (t_law_k5 K)
def t_law_k3 (K : PySem.W.Frag) : WS := wSeq (wAsg (wCall (sp__law_basis K) (wCons (wVar 1) (wCons (wVar 2) (wCons (wCall (sp__law_of K) (wCons (wVar 1) (wCons (wLst (wCons (wC (.int 4)) (wCons (wC (.int 7)) (wCons (wC (.int 2)) (wCons (wC (.int 0)) (wCons (wC (.int 9)) wNil)))))) wNil))) wNil)))) 4) (t_law_k4 K)
def t_law_k2 (K : PySem.W.Frag) : WS := wSeq (wAsg (wCall (sp__law_nest K) (wCons (wVar 1) (wCons (wCall (sp__law_matrices K) (wCons (wVar 1) (wCons (wVar 2) (wCons (wCall (sp__law_of K) (wCons (wVar 1) (wCons (wLst (wCons (wC (.int 2)) (wCons (wC (.int 3)) (wCons (wC (.int 1)) (wCons (wC (.int 4)) wNil))))) wNil))) (wCons (wOp gEq (wCall (sp__law_draw K) (wCons (wVar 1) (wCons (wC (.int 3)) wNil))) (wC (.int 2))) wNil))))) (wCons (wVar 2) wNil)))) 3) (t_law_k3 K)
def t_law_k1 (K : PySem.W.Frag) : WS := wSeq (wAsg (wCall (sp__law_of K) (wCons (wVar 1) (wCons (wLst (wCons (wC (.int 2)) (wCons (wC (.int 3)) (wCons (wC (.int 1)) (wCons (wC (.int 2)) (wCons (wC (.int 3)) (wCons (wC (.int 4)) wNil))))))) wNil))) 2) (t_law_k2 K)
def t_law_k0 (K : PySem.W.Frag) : WS := wSeq (wAsg (wCall (sp__law_bag K) (wCons (wVar 0) wNil)) 1) (t_law_k1 K)
abbrev t_law1 (K : PySem.W.Frag) : WS :=
  (t_law_k0 K)
def t_law2 (K : PySem.W.Frag) : WS :=
  (wRet (wAndV (wCall (sp__law_same K) (wCons (wCall (sp_parts K) (wCons (wVar 23) (wCons (wVar 22) wNil))) (wCons (wVar 10) wNil))) (wCall (sp__law_same K) (wCons (wCall (sp_parts K) (wCons (wVar 13) (wCons (wVar 14) wNil))) (wCons (wVar 10) wNil)))))
def lawT (P : Addr) : List (Addr × Str) := [(P, (d_law.qual ++ ".<locals>.") ++ "<lambda>")]
def t_law (K : PySem.W.Frag) (P : Addr) : TS := liftX K (t_law1 K) (tSeq (tLawIf K (lawT P) 13 22 (rrParts K)) (tSeq (tLawIf K (lawT P) 23 14 (rrParts K)) (liftS K (t_law2 K))))
abbrev k_law : Nat := 9
end K80
/-! V2 -/
namespace K80
open PySem PySem.Spec PyProof.Rows L2 L3
theorem vc__law_of {K : PySem.W.Frag} : ∀ ds μ P, sp__law_of K ds μ P → t__law_of K { nx := fun _ μ' => P .non μ', rt := P } (startD N__law_of.length ds) μ := by
  rintro ds μ P ⟨a, things, rfl, hb, ⟨xs, rfl, h0, h1, k⟩ | ⟨s, rfl, h0, h1, k⟩⟩
  · unfold t__law_of
    simp! only []
    refine ⟨a, xs.length, rfl, hb, by omega, by omega, fun r μ' c b r0 r1 => ?_⟩
    simp! only []
    obtain ⟨h, e⟩ := atI_get (xs := xs) r0 r1
    exact ⟨_, e, k _ _ (List.getElem_mem h) c b⟩
  · unfold t__law_of
    simp! only [lenD_str (Nat.le_of_lt h1)]
    refine ⟨a, s.length, rfl, hb, by omega, by omega, fun r μ' c b r0 r1 => ?_⟩
    simp! only [itemD_str (Nat.le_of_lt h1)]
    obtain ⟨h, e⟩ := atI_get (xs := s.cps.toList) r0 (by rw [Array.length_toList]; exact r1)
    exact ⟨_, by rw [e]; rfl, k _ _ (List.getElem_mem h) c b⟩
theorem cut_63 (cells : List Int) : L3.cutD (cells.map D.int) none (some 63) = (cells.take 63).map D.int := by
  rw [List.map_take]
  exact cut_hi _ 63
theorem vc__law_bag {K : PySem.W.Frag} : ∀ ds μ P, sp__law_bag K ds μ P → t__law_bag K { nx := fun _ μ' => P .non μ', rt := P } (startD N__law_bag.length ds) μ := by
  rintro ds μ P ⟨cells, rfl, k⟩
  unfold t__law_bag
  (refine seq_step ?_; simp! only [])
  refine seq_step ?_
  simp! only [cut_63]
  refine forD_inv (fun i δ μ' => μ' = μ ∧ ∃ (m : Int) (x : Option D), 0 ≤ m ∧ m < 2147483648 ∧ δ = [some (.fz (cells.map .int)), some (.int m), x]) 0 ⟨rfl, 16188, none, by decide, by decide, rfl⟩ (fun _ _ _ _ => trivial) ?_ ?_
  · rintro i x δ μ' hx ⟨rfl, m, y, h0, h1, rfl⟩ nx hn
    rw [List.getElem?_map, Option.map_eq_some_iff] at hx
    obtain ⟨c, _, rfl⟩ := hx
    simp! only []
    refine ⟨mulR (by decide) (by decide), by decide, mulR (by decide) (by decide), by decide, hn _ _ ⟨rfl, _, _, Int.emod_nonneg _ (by decide), Int.lt_trans (Int.emod_lt_of_pos _ (by decide)) (by decide), rfl⟩⟩
  · rintro δ μ' ⟨rfl, m, y, h0, h1, rfl⟩
    simp! only [cut_63]
    refine ⟨by decide, fun p hp => k p _ hp (fun b hb => mset_ne hb) ⟨_, 0, 0, m, 0, mset_same, ⟨by simp; omega, by decide, by decide, h0, h1⟩⟩⟩
end K80
/-! V3 -/
namespace K80
open PySem PySem.Spec PyProof.Rows L2 L3
theorem lc_units {K : PySem.W.Frag} {vs : Nat} : True := trivial
theorem units_vc {P : D → Mu → Prop} {μ : Mu} (deep : Nat) (h : deep ≤ 100) (p : P (.lst ((units deep).map tI)) μ) : (wRet (wLc (wRng1 (wCons (wVar 0) wNil)) (gN 2) wYes (wCB gTuple (wCons (wLc (wRng1 (wCons (wVar 0) wNil)) (gN 1) wYes (wIf (wTest (wOp gEq (wVar 1) (wVar 2))) (wC (.int 1)) (wC (.int 0))) [1]) wNil)) [2])) { nx := fun _ μ' => P .non μ', rt := P } (startD 3 [.int deep]) μ := by
  simp! only []
  have hs : small62 (deep : Int) := ⟨by omega, by omega⟩
  refine ⟨hs, ?_⟩
  rw [Int.toNat_natCast, rangeD_0]
  refine ⟨by simp [lim]; omega, lcD_of _ (fun k => tI (unitR deep k)) trivial (fun k hk Ry Rn h1 h2 => ?_) ?_⟩
  · simp! only []
    refine ⟨hs, ?_⟩
    rw [Int.toNat_natCast, rangeD_0]
    refine ⟨by simp [lim]; omega, lcD_of _ (fun i => .int (if i = k then 1 else 0)) trivial (fun i hi Ry' Rn' h1' h2' => ?_) ?_⟩
    · simp! only []
      by_cases e : i = k
      · subst e
        have := h1' _ rfl
        simpa using this
      · have := h1' _ rfl
        have e' : ¬ (i : Int) = (k : Int) := by omega
        simpa [e, e'] using this
    · simp! only []
      have := h1 _ rfl
      unfold tI unitR at this
      rw [List.map_map] at this
      exact this
  · unfold units at p
    rw [List.map_map] at p
    exact p
theorem vc__law_units {K : PySem.W.Frag} : ∀ ds μ P, sp__law_units K ds μ P → t__law_units K { nx := fun _ μ' => P .non μ', rt := P } (startD N__law_units.length ds) μ := by
  rintro ds μ P ⟨deep, rfl, h, p⟩
  exact units_vc deep h p
theorem vc_unit_rows {K : PySem.W.Frag} : ∀ ds μ P, sp_unit_rows K ds μ P → t_unit_rows K { nx := fun _ μ' => P .non μ', rt := P } (startD N_unit_rows.length ds) μ := by
  rintro ds μ P ⟨deep, rfl, h, p⟩
  exact units_vc deep h p
end K80
/-! V4 -/
namespace K80
open PySem PySem.Spec PyProof.Rows L2 L3
theorem draw_at {K : PySem.W.Frag} {a : Addr} {n : Int} {μ : Mu} {P : D → Mu → Prop} (hb : BagAt μ a) (h0 : 0 < n) (h1 : n < 1000000) (h : ∀ r μ', Ch a μ μ' → BagAt μ' a → 0 ≤ r → r < n → P (.int r) μ') : sp__law_draw K [.own a, .int n] μ P := ⟨a, n, rfl, hb, h0, h1, h⟩
theorem of_ints {K : PySem.W.Frag} {a : Addr} {xs : List Int} {μ : Mu} {P : D → Mu → Prop} (hb : BagAt μ a) (h0 : 0 < xs.length) (h1 : xs.length < 1000) (h : ∀ x μ', x ∈ xs → Ch a μ μ' → BagAt μ' a → P (.int x) μ') : sp__law_of K [.own a, .lst (xs.map .int)] μ P :=
  ⟨a, _, rfl, hb, .inl ⟨_, rfl, by simpa using h0, by simp; omega, fun x μ' hx c b => by
    obtain ⟨y, hy, rfl⟩ := List.mem_map.mp hx
    exact h y μ' hy c b⟩⟩
theorem vc__law_row {K : PySem.W.Frag} : ∀ ds μ P, sp__law_row K ds μ P → t__law_row K { nx := fun _ μ' => P .non μ', rt := P } (startD N__law_row.length ds) μ := by
  rintro ds μ P ⟨a, deep, pl, rfl, hb, h0, h1, k⟩
  have hs : small62 (deep : Int) := ⟨by omega, by omega⟩
  unfold t__law_row
  (refine seq_step ?_; simp! only [])
  cases pl with
  | true =>
    rw [if_pos rfl]
    (refine seq_step ?_; simp! only [])
    refine draw_at hb (by omega) (by omega) fun at' μ1 c1 b1 r0 r1 => ?_
    refine ⟨by decide, of_ints (xs := [1, 1, 2, 1, -1]) b1 (by decide) (by decide) fun m μ2 hm c2 b2 => ?_⟩
    refine ⟨by decide, hs, ?_⟩
    rw [Int.toNat_natCast, rangeD_0]
    refine ⟨by simp [lim]; omega, lcD_of _ (fun (i : Nat) => .int (if (i : Int) = at' then m else 0)) trivial (fun i hi Ry Rn h1 h2 => ?_) ?_⟩
    · simp! only []
      have := h1 _ rfl
      by_cases e : (i : Int) = at' <;> simpa [e] using this
    · simp! only []
      have := k ((List.range deep).map fun (i : Nat) => if (i : Int) = at' then m else 0) μ2 ⟨by simp, fun x hx => ?_, fun x hx => ?_⟩ (c1.trans c2) b2
      · unfold tI at this
        rw [List.map_map] at this
        exact this
      all_goals
        obtain ⟨i, _, rfl⟩ := List.mem_map.mp hx
        simp at hm
        split <;> omega
  | false =>
    rw [if_neg Bool.false_ne_true]
    unfold t__law_row_r1
    simp! only []
    refine ⟨hs, ?_⟩
    rw [Int.toNat_natCast, rangeD_0]
    refine ⟨by simp [lim]; omega, lcD_inv (fun i acc μ' => ∃ r : List Int, acc = r.map .int ∧ r.length = i ∧ (∀ x ∈ r, -2 ≤ x ∧ x ≤ 3) ∧ Ch a μ μ' ∧ BagAt μ' a) 0 ⟨[], rfl, rfl, (by simp), Ch.refl _ _, hb⟩ (fun _ _ _ _ => trivial) ?_ ?_⟩
    · rintro i x acc μ' hx ⟨r, rfl, hl, hr, c, b⟩ Ry Rn h1 h2
      simp! only []
      refine ⟨by decide, of_ints (xs := [1, 0, 0, -1, 0, 1, 2, 0, -2, 3]) b (by decide) (by decide) fun m μ2 hm c2 b2 => h1 _ _ ⟨r ++ [m], by simp, by simp; omega, fun x hx => ?_, c.trans c2, b2⟩⟩
      rcases List.mem_append.mp hx with h | h
      · exact hr x h
      · simp at h hm
        subst h
        omega
    · rintro acc μ' ⟨r, rfl, hl, hr, c, b⟩
      simp! only []
      refine k r μ' ⟨by simpa using hl, fun x hx => (hr x hx).1, fun x hx => (hr x hx).2⟩ c b
end K80
/-! V5 -/
namespace K80
open PySem PySem.Spec PyProof.Rows L2 L3
theorem vc__law_matrices {K : PySem.W.Frag} : ∀ ds μ P, sp__law_matrices K ds μ P → t__law_matrices K { nx := fun _ μ' => P .non μ', rt := P } (startD N__law_matrices.length ds) μ := by
  rintro ds μ P ⟨a, deep, wide, pl, rfl, hb, h0, h1, hw, k⟩
  unfold t__law_matrices
  simp! only []
  refine ⟨⟨by omega, by omega⟩, ?_⟩
  rw [Int.toNat_natCast, rangeD_0]
  refine ⟨by simp [lim]; omega, lcD_inv (fun i acc μ' => ∃ ms : List (List (List Int)), acc = ms.map mat ∧ MatsIn deep i ms ∧ Ch a μ μ' ∧ BagAt μ' a) 0 ⟨[], rfl, ⟨rfl, by simp, by simp⟩, Ch.refl _ _, hb⟩ (fun _ _ _ _ => trivial) ?_ ?_⟩
  · rintro i x acc μ1 hx ⟨ms, rfl, hm, c1, b1⟩ Ry Rn r1 r2
    simp! only []
    refine ⟨by decide, of_ints (xs := [1, 2, 1, 1, 2, 0, 3, 2]) b1 (by decide) (by decide) fun n μ2 hn c2 b2 => ?_⟩
    have hn' : 0 ≤ n ∧ n ≤ 3 := by simp at hn; omega
    obtain ⟨n, rfl⟩ := Int.eq_ofNat_of_zero_le hn'.1
    refine ⟨_, rfl, ⟨by omega, by omega⟩, ?_⟩
    rw [Int.toNat_natCast, rangeD_0]
    refine ⟨by simp [lim]; omega, lcD_inv (fun j acc μ' => ∃ m : List (List Int), acc = m.map tI ∧ m.length = j ∧ (∀ r ∈ m, RowIn deep r) ∧ Ch a μ μ' ∧ BagAt μ' a) 0 ⟨[], rfl, rfl, by simp, c1.trans c2, b2⟩ (fun _ _ _ _ => trivial) ?_ ?_⟩
    · rintro j y acc μ3 hy ⟨m, rfl, hl, hr, c3, b3⟩ Ry' Rn' s1 s2
      simp! only []
      refine ⟨a, deep, pl, rfl, b3, h0, h1, fun r μ4 hr4 c4 b4 => s1 _ _ ⟨m ++ [r], by simp, by simp; omega, fun q hq => ?_, c3.trans c4, b4⟩⟩
      rcases List.mem_append.mp hq with h | h
      · exact hr q h
      · rw [List.mem_singleton.mp h]; exact hr4
    · rintro acc μ3 ⟨m, rfl, hl, hr, c3, b3⟩
      have hl' : m.length ≤ 3 := by simp at hl; omega
      refine r1 _ _ ⟨ms ++ [m], by simp [mat], ⟨by simp [hm.len], fun q hq => ?_, fun q hq => ?_⟩, c3, b3⟩
      all_goals
        rcases List.mem_append.mp hq with h | h
      · exact hm.few q h
      · rw [List.mem_singleton.mp h]; exact hl'
      · exact hm.row q h
      · rw [List.mem_singleton.mp h]; exact hr
  · rintro acc μ1 ⟨ms, rfl, hm, c1, b1⟩
    have : 0 + ((List.range wide).map fun i => D.int (i : Nat)).length = wide := by simp
    rw [this] at hm
    exact k ms μ1 hm c1 b1
end K80
/-! V6 -/
namespace K80
open PySem PySem.Spec PyProof.Rows L2 L3
theorem of_str {K : PySem.W.Frag} {a : Addr} {s : Str} {μ : Mu} {P : D → Mu → Prop} (hb : BagAt μ a) (h0 : 0 < s.length) (h1 : s.length < 1000) (h : ∀ c μ', c ∈ s.cps.toList → Ch a μ μ' → BagAt μ' a → P (.str ⟨#[c]⟩) μ') : sp__law_of K [.own a, .str s] μ P :=
  ⟨a, _, rfl, hb, .inr ⟨s, rfl, h0, by omega, h⟩⟩
theorem cps_one (c : Nat) : (⟨#[c]⟩ : Str).cps.toList = [c] := rfl
theorem cps_add (s t : Str) : (s ++ t).cps.toList = s.cps.toList ++ t.cps.toList := by
  show (s.cps ++ t.cps).toList = _
  rw [Array.toList_append]
theorem len_cps (s : Str) : s.length = s.cps.toList.length := by rw [Array.length_toList]; rfl
theorem arr1 : ∀ c ∈ ("QWERTYNUIOPASDFGHJKLZXCVBM" : Str).cps.toList, 65 ≤ c ∧ c ≤ 90 := by decide +kernel
theorem arr2 : ∀ c ∈ ("Q0WERTY1UIOPA9SDFGHJKLZXCVBNM" : Str).cps.toList, (65 ≤ c ∧ c ≤ 90) ∨ (48 ≤ c ∧ c ≤ 57) := by decide +kernel
theorem Word.one {P : Nat → Prop} {n c : Nat} (h : P c) (hn : 0 < n) : Word P n ⟨#[c]⟩ := ⟨c, [], rfl, h, by simp, hn⟩
theorem Word.more {P : Nat → Prop} {n c : Nat} {s : Str} (w : Word P n s) (h : P c ∨ isDig c) : Word P (n + 1) (s ++ ⟨#[c]⟩) := by
  obtain ⟨d, l, e, h1, h2, h3⟩ := w.ex
  refine ⟨d, l ++ [c], by rw [cps_add, e]; rfl, h1, fun x hx => ?_, by rw [List.length_append]; exact Nat.add_lt_add_right h3 1⟩
  rcases List.mem_append.mp hx with q | q
  · exact h2 x q
  · rw [List.mem_singleton.mp q]; exact h
theorem Word.mono {P : Nat → Prop} {n m : Nat} {s : Str} (w : Word P n s) (h : n ≤ m) : Word P m s := by
  obtain ⟨d, l, e, h1, h2, h3⟩ := w.ex
  exact ⟨d, l, e, h1, h2, by omega⟩
theorem Word.len {P : Nat → Prop} {n : Nat} {s : Str} (w : Word P n s) : 1 ≤ s.length ∧ s.length ≤ n := by
  obtain ⟨d, l, e, h1, h2, h3⟩ := w.ex
  rw [len_cps, e, List.length_cons]
  omega
theorem vc__law_array {K : PySem.W.Frag} : ∀ ds μ P, sp__law_array K ds μ P → t__law_array K { nx := fun _ μ' => P .non μ', rt := P } (startD N__law_array.length ds) μ := by
  rintro ds μ P ⟨a, rfl, hb, k⟩
  unfold t__law_array
  (refine seq_step ?_; simp! only [])
  refine of_str hb (by decide +kernel) (by decide +kernel) fun c μ1 hc c1 b1 => ?_
  (refine seq_step ?_; simp! only [])
  refine ⟨by decide, of_ints (xs := [0, 0, 1, 2, 7, 0]) b1 (by decide) (by decide) fun n μ2 hn c2 b2 => ?_⟩
  have hn' : 0 ≤ n ∧ n ≤ 7 := by simp at hn; omega
  obtain ⟨n, rfl⟩ := Int.eq_ofNat_of_zero_le hn'.1
  refine ⟨_, rfl, ⟨by omega, by omega⟩, ?_⟩
  rw [Int.toNat_natCast, rangeD_0]
  refine forD_inv (fun i δ μ' => ∃ s x, δ = [some (.own a), some (.str s), x] ∧ Word isCap (i + 1) s ∧ Ch a μ μ' ∧ BagAt μ' a) 0 ⟨_, none, rfl, .one (arr1 c hc) (by decide), c1.trans c2, b2⟩ (fun _ _ _ _ => trivial) ?_ ?_
  · rintro i x δ μ3 hx ⟨s, y, rfl, hs, c3, b3⟩ nx hnx
    have hi : i < n := by have := (List.getElem?_eq_some_iff.mp hx).1; simpa using this
    simp! only []
    refine of_str b3 (by decide +kernel) (by decide +kernel) fun d μ4 hd c4 b4 => ?_
    have h1 := hs.len
    refine ⟨by simp [Str.length, lim] at *; omega, hnx _ _ ⟨_, _, rfl, hs.more (arr2 d hd), c3.trans c4, b4⟩⟩
  · rintro δ μ3 ⟨s, y, rfl, hs, c3, b3⟩
    simp! only []
    exact k s μ3 (hs.mono (by simp; omega)) c3 b3
end K80
/-! V7 -/
namespace K80
open PySem PySem.Spec PyProof.Rows L2 L3
theorem nodup_len {α : Type} [DecidableEq α] : ∀ {l m : List α}, l.Nodup → (∀ x ∈ l, x ∈ m) → l.length ≤ m.length
  | [], m, _, _ => Nat.zero_le _
  | x :: l, m, h, hs => by
    rw [List.nodup_cons] at h
    have hx := hs x List.mem_cons_self
    have := nodup_len (l := l) (m := m.erase x) h.2 fun y hy => (List.mem_erase_of_ne (fun e => h.1 (by rw [← e]; exact hy))).mpr (hs y (List.mem_cons_of_mem _ hy))
    rw [List.length_erase_of_mem hx] at this
    have h0 : 0 < m.length := List.length_pos_of_mem hx
    rw [List.length_cons]
    omega
theorem flat_strs (l : List Str) : (l.map D.str).all flatD = true := by rw [List.all_map]; exact List.all_eq_true.mpr fun _ _ => rfl
theorem any_strs (l : List Str) (s : Str) : ((l.map D.str).any fun y => eqF y (.str s)) = decide (s ∈ l) := by
  rw [List.any_map]
  induction l with
  | nil => rfl
  | cons x l ih =>
    rw [List.any_cons, ih]
    show ((x == s) || decide (s ∈ l)) = _
    by_cases h : s = x
    · subst h; simp
    · have : (x == s) = false := by simpa using fun e => h e.symm
      simp [this, h]
def eight : List Str := ["q", "ab", "z9", "i", "k0a", "b", "for1", "j"]
theorem eight_ok : ∀ s ∈ eight, CtrOk s := by
  have h1 : ∀ s ∈ eight, s ∉ kept := by decide +kernel
  intro s hs
  refine ⟨?_, h1 s hs⟩
  have h2 : ∀ s ∈ eight, (match s.cps.toList with | [] => false | c :: l => decide (97 ≤ c ∧ c ≤ 122) && (l.all fun x => decide ((97 ≤ x ∧ x ≤ 122) ∨ (48 ≤ x ∧ x ≤ 57))) && decide (l.length < 6)) = true := by decide +kernel
  have h := h2 s hs
  cases e : s.cps.toList with
  | nil => rw [e] at h; cases h
  | cons c l =>
    rw [e] at h
    simp only [Bool.and_eq_true, decide_eq_true_eq, List.all_eq_true] at h
    exact ⟨c, l, e, h.1.1, h.1.2, h.2⟩
theorem eight_nd : eight.Nodup := by decide +kernel
theorem ctr1 : ∀ c ∈ ("qazwsxedcrfvtgbyhnujmikolp" : Str).cps.toList, 97 ≤ c ∧ c ≤ 122 := by decide +kernel
theorem ctr2 : ∀ c ∈ ("q7az0wsxe1dcrfvtg9byhnujmikolp" : Str).cps.toList, (97 ≤ c ∧ c ≤ 122) ∨ (48 ≤ c ∧ c ≤ 57) := by decide +kernel
/-- the first of ws that is not among the names -/
theorem first_free {ws names : List Str} (nd : ws.Nodup) (h : names.length < ws.length) : ∃ s l, (ws.filter fun o => decide (o ∉ names)) = s :: l ∧ s ∈ ws ∧ s ∉ names := by
  cases e : ws.filter fun o => decide (o ∉ names) with
  | nil =>
    have := nodup_len nd fun x hx => by
      have := List.filter_eq_nil_iff.mp e x hx
      simpa using this
    omega
  | cons s l =>
    have : s ∈ ws.filter fun o => decide (o ∉ names) := by rw [e]; exact List.mem_cons_self
    rw [List.mem_filter] at this
    exact ⟨s, l, rfl, this.1, by simpa using this.2⟩
theorem vc__law_names {K : PySem.W.Frag} : ∀ ds μ P, sp__law_names K ds μ P → t__law_names K { nx := fun _ μ' => P .non μ', rt := P } (startD N__law_names.length ds) μ := by
  rintro ds μ P ⟨a, deep, rfl, hd, hb, k⟩
  unfold t__law_names
  (refine seq_step ?_; simp! only [])
  refine ⟨by decide, fun p hp => ?_⟩
  have hpa : p ≠ a := by
    rintro rfl
    obtain ⟨_, _, _, _, _, h, _⟩ := hb
    rw [hp] at h
    cases h
  have hbag : BagAt (mset μ p (.lst [])) a := by
    obtain ⟨c, i, b, s, n, h, q⟩ := hb
    exact ⟨c, i, b, s, n, by rw [mset_ne hpa.symm]; exact h, q⟩
  (refine seq_step ?_; simp! only [])
  refine ⟨⟨by omega, by omega⟩, ?_⟩
  rw [Int.toNat_natCast, rangeD_0]
  refine forD_inv (fun i δ μ' => ∃ names x3 x4 x5 x6, δ = [some (.own a), some (.int deep), some (.own p), x3, x4, x5, x6] ∧ CtrsOk i names ∧ μ' p = some (.lst (names.map .str)) ∧ (∀ b, b ≠ a → b ≠ p → μ' b = μ b) ∧ BagAt μ' a) 0
    ⟨[], none, none, none, none, rfl, ⟨rfl, by simp, List.nodup_nil⟩, mset_same, fun b _ h => mset_ne h, hbag⟩ (fun _ _ _ _ => trivial) ?_ ?_
  · rintro i x δ μ1 hx ⟨names, x3, x4, x5, x6, rfl, hn, m1, f1, b1⟩ nx hnx
    have hi : i < deep := by have := (List.getElem?_eq_some_iff.mp hx).1; simpa using this
    have hlen : names.length < 8 := by have := hn.len; omega
    simp! only []
    (refine seq_step ?_; simp! only [])
    refine of_str b1 (by decide +kernel) (by decide +kernel) fun c μ2 hc c2 b2 => ?_
    (refine seq_step ?_; simp! only [])
    refine ⟨by decide, of_ints (xs := [0, 1, 0, 2, 5, 0]) b2 (by decide) (by decide) fun n μ3 hn3 c3 b3 => ?_⟩
    have hn' : 0 ≤ n ∧ n ≤ 5 := by simp at hn3; omega
    obtain ⟨n, rfl⟩ := Int.eq_ofNat_of_zero_le hn'.1
    refine ⟨_, rfl, ⟨by omega, by omega⟩, ?_⟩
    rw [Int.toNat_natCast, rangeD_0]
    refine forD_inv (fun j δ μ' => ∃ s y5, δ = [some (.own a), some (.int deep), some (.own p), some x, some (.str s), y5, x6] ∧ Word isLow (j + 1) s ∧ Ch a μ1 μ' ∧ BagAt μ' a) 0 ⟨_, x5, rfl, .one (ctr1 c hc) (by decide), c2.trans c3, b3⟩ (fun _ _ _ _ => trivial) ?_ ?_
    · rintro j y δ μ4 hy ⟨s, y5, rfl, hs, c4, b4⟩ nx' hnx'
      have hj : j < n := by have := (List.getElem?_eq_some_iff.mp hy).1; simpa using this
      simp! only []
      refine of_str b4 (by decide +kernel) (by decide +kernel) fun d μ5 hd5 c5 b5 => ?_
      have h1 := hs.len
      refine ⟨by simp [Str.length, lim] at *; omega, hnx' _ _ ⟨_, _, rfl, hs.more (ctr2 d hd5), c4.trans c5, b5⟩⟩
    · rintro δ μ4 ⟨s, y5, rfl, hs, c4, b4⟩
      have hs6 : Word isLow 6 s := hs.mono (by simp; omega)
      have m4 : μ4 p = some (.lst (names.map .str)) := by rw [c4 p hpa]; exact m1
      have f4 : ∀ b, b ≠ a → b ≠ p → μ4 b = μ b := fun b h1 h2 => (c4 b h1).trans (f1 b h1 h2)
      -- what follows the if
      have fin : ∀ s' y5 y6, CtrOk s' → s' ∉ names → t__law_names_r1 K { nx := nx, rt := P, bk := wRet (wFrz (wVar 2)) { nx := fun x μ' => P D.non μ', rt := P }, ct := nx } [some (.own a), some (.int deep), some (.own p), some x, some (.str s'), y5, y6] μ4 := fun s' y5 y6 hs' hni => by
        unfold t__law_names_r1
        simp! only [tyD_own m4]
        refine ⟨_, m4, by simp [lim]; omega, hnx _ _ ⟨names ++ [s'], _, _, _, _, rfl, ⟨by simp [hn.len], fun q hq => ?_, ?_⟩, by rw [mset_same, List.map_append]; rfl, fun b h1 h2 => (mset_ne h2).trans (f4 b h1 h2), ?_⟩⟩
        · rcases List.mem_append.mp hq with h | h
          · exact hn.ok q h
          · rw [List.mem_singleton.mp h]; exact hs'
        · rw [List.nodup_append]
          refine ⟨hn.nd, by simp, fun q hq r hr e => ?_⟩
          rw [List.mem_singleton.mp hr] at e
          exact hni (e ▸ hq)
        · obtain ⟨c, i, b, s, n, h, q⟩ := b4
          exact ⟨c, i, b, s, n, by rw [mset_ne hpa.symm]; exact h, q⟩
      simp! only []
      (refine seq_step ?_; simp! only [walkD_own m4, flat_strs, any_strs])
      have alt : lcD (gN 6) (wTest (wOp (gIn true) (wVar 6) (wVar 2))) (wVar 6) [6] (fun x => True)
            (fun d1 μ1 => ∃ x_1, itemD μ1 d1 0 = some x_1 ∧ t__law_names_r1 K { nx := nx, rt := P, bk := wRet (wFrz (wVar 2)) { nx := fun x μ' => P D.non μ', rt := P }, ct := nx } [some (D.own a), some (D.int ↑deep), some (D.own p), some x, some x_1, y5, x6] μ1)
            [some (D.own a), some (D.int ↑deep), some (D.own p), some x, some (D.str s), y5, x6] (eight.map D.str) [] μ4 := by
        refine lcD_if D.str D.str (fun o => decide (o ∉ names)) trivial (fun o ho Ry Rn h1 h2 => ?_) ?_
        · simp! only [walkD_own m4, flat_strs, any_strs]
          by_cases q : o ∈ names
          · have := h2 (by simp [q])
            simpa [q, flatD] using this
          · have := h1 (.str o) (by simp [q])
            simpa [q, flatD] using this
        · obtain ⟨s', l, e, h1, h2⟩ := first_free eight_nd (names := names) hlen
          rw [e]
          exact ⟨.str s', (atI_nat (k := 0) (xs := (s' :: l).map D.str) rfl), fin s' _ _ (eight_ok s' h1) h2⟩
      refine ⟨rfl, ?_⟩
      by_cases hin : s ∈ names
      · rw [if_pos (by simpa using hin)]
        exact ⟨by decide, by decide, alt⟩
      · rw [if_neg (by simpa using hin)]
        refine ⟨by decide, rfl, rfl, ?_⟩
        have ek : ([D.str "for", D.str "touch", D.str "nest", D.str "done"].any fun y => eqF y (D.str s)) = decide (s ∈ kept) := any_strs kept s
        by_cases hk : s ∈ kept
        · rw [if_pos (by rw [ek]; simpa using hk)]
          exact ⟨by decide, by decide, alt⟩
        · rw [if_neg (by rw [ek]; simpa using hk)]
          exact fin s _ _ ⟨hs6, hk⟩ hin
  · rintro δ μ1 ⟨names, x3, x4, x5, x6, rfl, hn, m1, f1, b1⟩
    simp! only []
    refine ⟨_, m1, k names _ ?_ (fun b hb => ?_) ?_⟩
    · have : 0 + ((List.range deep).map fun i => D.int (i : Nat)).length = deep := by simp
      rw [this] at hn
      exact hn
    · by_cases h : b = p
      · rw [h, mdel_same, hp]
      · rw [mdel_ne h]; exact f1 b hb h
    · obtain ⟨c, i, b, s, n, h, q⟩ := b1
      exact ⟨c, i, b, s, n, by rw [mdel_ne hpa.symm]; exact h, q⟩
end K80
/-! V8 -/
namespace K80
open PySem PySem.Spec PyProof.Rows L2 L3
def eightA : List Str := ["Q", "AB", "Z9", "I", "K0A", "B", "N1", "J"]
theorem eightA_nd : eightA.Nodup := by decide +kernel
theorem eightA_ok : ∀ s ∈ eightA, ArrOk s := by
  intro s hs
  have h2 : ∀ s ∈ eightA, (match s.cps.toList with | [] => false | c :: l => decide (65 ≤ c ∧ c ≤ 90) && (l.all fun x => decide ((65 ≤ x ∧ x ≤ 90) ∨ (48 ≤ x ∧ x ≤ 57))) && decide (l.length < 8)) = true := by decide +kernel
  have h := h2 s hs
  cases e : s.cps.toList with
  | nil => rw [e] at h; cases h
  | cons c l =>
    rw [e] at h
    simp only [Bool.and_eq_true, decide_eq_true_eq, List.all_eq_true] at h
    exact ⟨c, l, e, h.1.1, h.1.2, h.2⟩
theorem BagAt.of {μ μ' : Mu} {a : Addr} (b : BagAt μ a) (h : μ' a = μ a) : BagAt μ' a := by
  obtain ⟨c, i, g, s, n, e, q⟩ := b
  exact ⟨c, i, g, s, n, h.trans e, q⟩
theorem BagAt.ne {μ : Mu} {a p : Addr} (b : BagAt μ a) (h : μ p = none) : p ≠ a := by
  rintro rfl
  obtain ⟨_, _, _, _, _, e, _⟩ := b
  rw [h] at e
  cases e
/-- all the names of the touches | those whose subscripts are as many -/
theorem names_lc {P : D → Mu → Prop} {μ : Mu} {p : Addr} {ts : List TouchT} {δ : De} {i j : Nat} {te : WE} (hm : μ p = some (.lst (ts.map encT))) (hte : ∀ t ∈ ts, ∀ Q : D → Mu → Prop, Q (.str t.1) μ → te (((wipeD δ [i, j]).set i (some (.str t.1))).set j (some (.lst (t.2.map encS)))) μ Q) (h : P (.lst (ts.map fun t => .str t.1)) μ) :
    lcD (gT 2 (gsCons (gN i) (gsCons (gN j) gsNil))) wYes te [i, j] (fun μ' => μ' p = some (.lst (ts.map encT))) P δ (ts.map encT) [] μ := by
  refine lcD_of encT (fun t => .str t.1) hm (fun t ht Ry Rn h1 h2 => ?_) (by simpa using h)
  unfold encT
  refine ⟨_, rfl, rfl, _, _, rfl, _, _, rfl, rfl, ?_⟩
  show if true = true then te _ μ Ry else Rn μ
  rw [if_pos rfl]
  exact hte t ht _ (h1 _ rfl)
theorem vc__law_dressed {K : PySem.W.Frag} : ∀ ds μ P, sp__law_dressed K ds μ P → t__law_dressed K { nx := fun _ μ' => P .non μ', rt := P } (startD N__law_dressed.length ds) μ := by
  rintro ds μ P ⟨a, deep, wide, ms, rfl, hms, hw, hb, k⟩
  unfold t__law_dressed
  (refine seq_step ?_; simp! only [])
  refine ⟨by decide, fun p hp => ?_⟩
  have hpa : p ≠ a := hb.ne hp
  have hbag : BagAt (mset μ p (.lst [])) a := hb.of (mset_ne hpa.symm)
  (refine seq_step ?_; simp! only [])
  refine forD_inv (fun i δ μ' => ∃ ts x3 x4 x5 x6 x7 x8 x9 x10, δ = [some (.own a), some (.lst (ms.map mat)), some (.own p), x3, x4, x5, x6, x7, x8, x9, x10] ∧ TouchesOk deep i ts ∧ μ' p = some (.lst (ts.map encT)) ∧ (∀ b, b ≠ a → b ≠ p → μ' b = μ b) ∧ BagAt μ' a) 0
    ⟨[], none, none, none, none, none, none, none, none, rfl, ⟨rfl, by simp, by simp⟩, mset_same, fun b _ h => mset_ne h, hbag⟩ (fun _ _ _ _ => trivial) ?_ ?_
  · rintro i x δ μ1 hx ⟨ts, x3, x4, x5, x6, x7, x8, x9, x10, rfl, ht, m1, f1, b1⟩ nx hnx
    rw [List.getElem?_map, Option.map_eq_some_iff] at hx
    obtain ⟨m, hm, rfl⟩ := hx
    have hmem := List.mem_of_getElem? hm
    have hi : i < ms.length := (List.getElem?_eq_some_iff.mp hm).1
    have hmw := hms.len
    have hlen : ts.length < 8 := by have := ht.len; omega
    simp! only []
    (refine seq_step ?_; simp! only [walkD_own m1])
    refine ⟨by simp [lim]; omega, lcD_if encT (fun t => .str t.1) (fun t => decide (t.2.length = m.length)) m1 (fun t htt Ry Rn h1 h2 => ?_) ?_⟩
    · unfold encT mat
      simp! only [List.length_map]
      by_cases q : t.2.length = m.length
      · have := h1 _ (by rw [if_pos (by simpa using q)])
        simpa [q] using this
      · have := h2 (by rw [if_neg (by simpa using q)])
        have q' : ¬ (t.2.length : Int) = (m.length : Int) := by omega
        simpa [q'] using this
    · -- behind the names' list
      have tail : ∀ s' μ4 y4 y6 y7 y8 y9, ArrOk s' → (∀ t ∈ ts, t.1 = s' → t.2.length = m.length) → Ch a μ1 μ4 → BagAt μ4 a → t__law_dressed_r1 K { nx := nx, rt := P, bk := wRet (wFrz (wVar 2)) { nx := fun x μ' => P D.non μ', rt := P }, ct := nx } [some (.own a), some (.lst (ms.map mat)), some (.own p), some (mat m), y4, some (.str s'), y6, y7, y8, y9, x10] μ4 := by
        intro s' μ4 y4 y6 y7 y8 y9 hs hsame c4 b4
        have m4 : μ4 p = some (.lst (ts.map encT)) := by rw [c4 p hpa]; exact m1
        unfold t__law_dressed_r1 mat
        simp! only [tyD_own m4]
        refine ⟨by have := hms.few m hmem; simp [lim]; omega, lcD_inv (fun j acc μ' => ∃ subs : List SubT, acc = subs.map encS ∧ subs.length = j ∧ (∀ z ∈ subs, z.1 ∈ m ∧ z.2 ∈ offs) ∧ Ch a μ1 μ' ∧ BagAt μ' a) 0 ⟨[], rfl, rfl, by simp, c4, b4⟩ (fun _ _ _ _ => trivial) ?_ ?_⟩
        · rintro j y acc μ5 hy ⟨subs, rfl, hl, hsub, c5, b5⟩ Ry Rn r1 r2
          rw [List.getElem?_map, Option.map_eq_some_iff] at hy
          obtain ⟨r, hr, rfl⟩ := hy
          unfold tI
          simp! only []
          refine ⟨by decide, of_ints (xs := offs) b5 (by decide) (by decide) fun o μ6 ho c6 b6 => ⟨by decide, r1 _ _ ⟨subs ++ [(r, o)], by simp [encS, tI], by simp; omega, fun z hz => ?_, c5.trans c6, b6⟩⟩⟩
          rcases List.mem_append.mp hz with h | h
          · exact hsub z h
          · rw [List.mem_singleton.mp h]
            exact ⟨List.mem_of_getElem? hr, ho⟩
        · rintro acc μ5 ⟨subs, rfl, hl, hsub, c5, b5⟩
          have m5 : μ5 p = some (.lst (ts.map encT)) := by rw [c5 p hpa]; exact m1
          have hl' : subs.length = m.length := by simp at hl; omega
          refine ⟨by decide, _, m5, by simp [lim]; omega, hnx _ _ ⟨ts ++ [(s', subs)], _, _, _, _, _, _, _, _, rfl, ⟨by simp [ht.len], fun t h => ?_, fun t h u g e => ?_⟩, by rw [mset_same, List.map_append]; rfl, fun b h1 h2 => (mset_ne h2).trans ((c5 b h1).trans (f1 b h1 h2)), b5.of (mset_ne hpa.symm)⟩⟩
          · rcases List.mem_append.mp h with h | h
            · exact ht.ok t h
            · rw [List.mem_singleton.mp h]
              exact ⟨hs, by have := hms.few m hmem; show subs.length ≤ 3; omega, fun z hz => hms.row m hmem z.1 (hsub z hz).1, fun z hz => (hsub z hz).2⟩
          · rcases List.mem_append.mp h with h | h <;> rcases List.mem_append.mp g with g | g
            · exact ht.same t h u g e
            · rw [List.mem_singleton.mp g] at e ⊢
              show t.2.length = subs.length
              rw [hl']
              exact hsame t h e
            · rw [List.mem_singleton.mp h] at e ⊢
              show subs.length = u.2.length
              rw [hl']
              exact (hsame u g e.symm).symm
            · rw [List.mem_singleton.mp h, List.mem_singleton.mp g]
      (refine seq_step ?_; simp! only [])
      refine ⟨a, rfl, b1, fun s μ2 hs c2 b2 => ?_⟩
      have m2 : μ2 p = some (.lst (ts.map encT)) := by rw [c2 p hpa]; exact m1
      let Fx : DEnds := { nx := nx, rt := P, bk := wRet (wFrz (wVar 2)) { nx := fun x μ' => P D.non μ', rt := P }, ct := nx }
      -- the else
      have els : ∀ μ3 y4, Ch a μ1 μ3 → BagAt μ3 a → t__law_dressed_r2 K { nx := t__law_dressed_r1 K Fx, rt := P, bk := Fx.bk, ct := nx } [some (.own a), some (.lst (ms.map mat)), some (.own p), some (mat m), y4, some (.str s), x6, x7, x8, x9, x10] μ3 := by
        intro μ3 y4 c3 b3
        have m3 : μ3 p = some (.lst (ts.map encT)) := by rw [c3 p hpa]; exact m1
        have ln : (ts.map encT).length ≤ lim := by simp [lim]; omega
        have e1 : (ts.map fun t : TouchT => D.str t.1) = (ts.map (·.1)).map D.str := by rw [List.map_map]; rfl
        unfold t__law_dressed_r2
        simp! only [walkD_own m3]
        refine ⟨ln, names_lc m3 (fun t ht Q hq => ⟨_, rfl, hq⟩) ?_⟩
        rw [e1]
        refine ⟨_, rfl, rfl, flat_strs _, ?_⟩
        rw [any_strs]
        by_cases hin : s ∈ ts.map (·.1)
        · rw [if_pos (by simpa using hin)]
          (refine seq_step ?_; simp! only [walkD_own m3])
          refine ⟨ln, names_lc m3 (fun t ht Q hq => ⟨_, rfl, hq⟩) ?_⟩
          skip
          refine ⟨by decide, by decide, ?_⟩
          rw [e1]
          refine (show lcD _ _ _ _ _ _ _ (eightA.map D.str) _ _ from lcD_if D.str D.str (fun o => decide (o ∉ ts.map (·.1))) trivial (fun o ho Ry Rn h1 h2 => ?_) ?_)
          · simp! only [flat_strs, any_strs]
            by_cases q : o ∈ ts.map (·.1)
            · have := h2 (by rw [if_neg (by simpa using q)])
              simpa [q, flatD] using this
            · have := h1 (.str o) (by rw [if_pos (by simpa using q)])
              simpa [q, flatD] using this
          · obtain ⟨s', l, e, h1, h2⟩ := first_free eightA_nd (names := ts.map (·.1)) (by rw [List.length_map]; exact hlen)
            rw [e]
            exact ⟨.str s', (atI_nat (k := 0) (xs := (s' :: l).map D.str) rfl), tail s' μ3 _ _ _ _ _ (eightA_ok s' h1) (fun t ht e => absurd (e ▸ List.mem_map_of_mem ht) h2) c3 b3⟩
        · rw [if_neg (by simpa using hin)]
          exact tail s μ3 _ _ _ _ _ hs (fun t ht e => absurd (e ▸ List.mem_map_of_mem ht) hin) c3 b3
      (refine seq_step ?_; simp! only [List.nil_append, walkD_own m2])
      by_cases hal : (ts.filter fun t => decide (t.2.length = m.length)) = []
      · rw [hal, if_neg (by simp)]
        exact els μ2 _ c2 b2
      · rw [if_pos (by simpa using hal)]
        refine draw_at b2 (by decide) (by decide) fun r μ3 c3 b3 r0 r1 => ⟨_, rfl, ?_⟩
        by_cases hr : r = 3
        · rw [if_pos (by simpa using hr)]
          refine ⟨a, _, rfl, b3, .inl ⟨_, rfl, by simpa [List.length_pos_iff] using hal, by have := List.length_filter_le (fun t : TouchT => decide (t.2.length = m.length)) ts; simp; omega, fun d μ4 hd c4 b4 => ?_⟩⟩
          obtain ⟨t, htf, rfl⟩ := List.mem_map.mp hd
          rw [List.mem_filter] at htf
          exact tail t.1 μ4 _ _ _ _ _ (ht.ok t htf.1).nm (fun u hu e => by rw [ht.same u hu t htf.1 e]; simpa using htf.2) ((c2.trans c3).trans c4) b4
        · rw [if_neg (by simpa using hr)]
          exact els μ3 _ (c2.trans c3) b3
  · rintro δ μ1 ⟨ts, x3, x4, x5, x6, x7, x8, x9, x10, rfl, ht, m1, f1, b1⟩
    simp! only []
    refine ⟨_, m1, k ts _ ?_ (fun b hb => ?_) (b1.of (mdel_ne hpa.symm))⟩
    · have : 0 + (ms.map mat).length = wide := by rw [List.length_map, hms.len]; omega
      rw [this] at ht
      exact ht
    · by_cases h : b = p
      · rw [h, mdel_same, hp]
      · rw [mdel_ne h]; exact f1 b hb h
end K80
/-! V9 -/
namespace K80
open PySem PySem.Spec PyProof.Rows L2 L3
theorem vc__law_nest {K : PySem.W.Frag} : ∀ ds μ P, sp__law_nest K ds μ P → t__law_nest K { nx := fun _ μ' => P .non μ', rt := P } (startD N__law_nest.length ds) μ := by
  rintro ds μ P ⟨a, deep, wide, ms, rfl, hm, hw, hd, hb, k⟩
  unfold t__law_nest
  simp! only []
  refine ⟨a, deep, rfl, hd, hb, fun names μ1 hn c1 b1 => ?_⟩
  exact ⟨a, deep, wide, ms, rfl, hm, hw, b1, fun ts μ2 ht c2 b2 => ⟨by decide, k (names, ts) μ2 ⟨hn, ht⟩ (c1.trans c2) b2⟩⟩
end K80
/-! V10 -/
namespace K80
open PySem PySem.Spec PyProof.Rows L2 L3
theorem small_mem : ∀ c, c ∈ ("abcdefghijklmnopqrstuvwxyz" : Str).cps.toList ↔ 97 ≤ c ∧ c ≤ 122 := by
  intro c
  have e : ("abcdefghijklmnopqrstuvwxyz" : Str).cps.toList = (List.range 26).map (· + 97) := by decide +kernel
  rw [e]
  simp only [List.mem_map, List.mem_range]
  exact ⟨fun ⟨a, h1, h2⟩ => by omega, fun h => ⟨c - 97, by omega, by omega⟩⟩
theorem caps_mem : ∀ c, c ∈ ("ABCDEFGHIJKLMNOPQRSTUVWXYZ" : Str).cps.toList ↔ 65 ≤ c ∧ c ≤ 90 := by
  intro c
  have e : ("ABCDEFGHIJKLMNOPQRSTUVWXYZ" : Str).cps.toList = (List.range 26).map (· + 65) := by decide +kernel
  rw [e]
  simp only [List.mem_map, List.mem_range]
  exact ⟨fun ⟨a, h1, h2⟩ => by omega, fun h => ⟨c - 65, by omega, by omega⟩⟩
theorem digs_mem : ∀ c, c ∈ ("0123456789" : Str).cps.toList ↔ 48 ≤ c ∧ c ≤ 57 := by
  intro c
  have e : ("0123456789" : Str).cps.toList = (List.range 10).map (· + 48) := by decide +kernel
  rw [e]
  simp only [List.mem_map, List.mem_range]
  exact ⟨fun ⟨a, h1, h2⟩ => by omega, fun h => ⟨c - 48, by omega, by omega⟩⟩
theorem at_0 {α : Type} {c : α} {l : List α} : atI (c :: l) 0 = some c := atI_nat (k := 0) rfl
theorem signs_lc {P : D → Mu → Prop} {μ : Mu} {δ : De} {l : List Nat} {A B : Str} (h : ∀ c ∈ l, c ∈ A.cps.toList ∨ c ∈ B.cps.toList) (hd : δ.length = 2) (p : P (.lst (l.map fun _ => .bl true)) μ) :
    lcD (gN 1) wYes (wOrV (wOp (gIn false) (wVar 1) (wC (.str A))) (wOp (gIn false) (wVar 1) (wC (.str B)))) [1] (fun _ => True) P δ (l.map fun c => D.str ⟨#[c]⟩) [] μ := by
  refine lcD_of _ (fun _ => .bl true) trivial (fun c hc Ry Rn h1 h2 => ?_) (by simpa using p)
  obtain ⟨x, y, rfl⟩ : ∃ x y, δ = [x, y] := by
    match δ, hd with
    | [x, y], _ => exact ⟨x, y, rfl⟩
  simp! only []
  refine ⟨_, rfl, ?_⟩
  have := h1 _ rfl
  by_cases q : c ∈ A.cps.toList
  · rw [if_pos (by simpa using q)]
    exact this
  · rw [if_neg (by simpa using q)]
    refine ⟨_, rfl, ?_⟩
    have q2 := (h c hc).resolve_left q
    simpa [q2] using this
theorem all_true {α : Type} (l : List α) : (l.map fun _ => D.bl true) = (l.map fun _ => true).map D.bl := by rw [List.map_map]; rfl
theorem all_id {α : Type} (l : List α) : (l.map fun _ => true).all id = true := by rw [List.all_map]; exact List.all_eq_true.mpr fun _ _ => rfl
theorem vc_is_counter_name {K : PySem.W.Frag} : ∀ ds μ P, sp_is_counter_name K ds μ P → t_is_counter_name K { nx := fun _ μ' => P .non μ', rt := P } (startD N_is_counter_name.length ds) μ := by
  rintro ds μ P ⟨s, rfl, ⟨hw, hk⟩, p⟩
  have hl := hw.len
  have hlim : s.length ≤ lim := by simp [lim]; omega
  obtain ⟨c, l, e, h1, h2, h3⟩ := hw.ex
  have hat : itemD μ (.str s) 0 = some (.str ⟨#[c]⟩) := by
    rw [itemD_str hlim, e, at_0]
    rfl
  have hany : (kept.any fun w => w == s) = false := by
    rw [List.any_eq_false]
    intro x hx hb
    exact hk (by rw [← beq_iff_eq.mp hb]; exact hx)
  unfold t_is_counter_name
  (refine seq_step ?_; simp! only [lenD_str hlim, wInK, hat, hany, wStrI])
  rw [if_pos (by simp; omega), if_neg (by simp; omega)]
  refine ⟨c, rfl, ?_⟩
  rw [if_neg (by simpa using (small_mem c).mpr h1)]
  unfold t_is_counter_name_r1
  simp! only [wStrI]
  unfold signsD
  rw [e]
  refine ⟨by simp [lim]; omega, signs_lc (fun x hx => ?_) rfl ?_⟩
  · rcases List.mem_cons.mp hx with rfl | hx
    · exact .inl ((small_mem _).mpr h1)
    · exact (h2 x hx).imp (small_mem x).mpr (digs_mem x).mpr
  · simp! only []
    refine ⟨_, all_true (c :: l), ?_⟩
    rw [all_id (c :: l)]
    exact p
theorem vc_is_array_name {K : PySem.W.Frag} : ∀ ds μ P, sp_is_array_name K ds μ P → t_is_array_name K { nx := fun _ μ' => P .non μ', rt := P } (startD N_is_array_name.length ds) μ := by
  rintro ds μ P ⟨s, rfl, hw, p⟩
  have hl := hw.len
  have hlim : s.length ≤ lim := by simp [lim]; omega
  obtain ⟨c, l, e, h1, h2, h3⟩ := hw.ex
  have hat : itemD μ (.str s) 0 = some (.str ⟨#[c]⟩) := by
    rw [itemD_str hlim, e, at_0]
    rfl
  unfold t_is_array_name
  (refine seq_step ?_; simp! only [lenD_str hlim, hat, wStrI])
  rw [if_pos (by simp; omega), if_neg (by simp; omega)]
  refine ⟨c, rfl, ?_⟩
  rw [if_neg (by simpa using (caps_mem c).mpr h1)]
  unfold t_is_array_name_r1
  simp! only [wStrI]
  unfold signsD
  rw [e]
  refine ⟨by simp [lim]; omega, signs_lc (fun x hx => ?_) rfl ?_⟩
  · rcases List.mem_cons.mp hx with rfl | hx
    · exact .inl ((caps_mem _).mpr h1)
    · exact (h2 x hx).imp (caps_mem x).mpr (digs_mem x).mpr
  · simp! only []
    refine ⟨_, all_true (c :: l), ?_⟩
    rw [all_id (c :: l)]
    exact p
end K80
/-! V11 -/
namespace K80
open PySem PySem.Spec PyProof.Rows L2 L3
theorem Forget.del {μ : Mu} {a : Addr} : Forget μ (mdel μ a) := fun b => by
  by_cases h : b = a
  · exact .inr (by rw [h]; exact mdel_same)
  · exact .inl (mdel_ne h)
theorem vc__law_pick {K : PySem.W.Frag} : ∀ ds μ P, sp__law_pick K ds μ P → t__law_pick K { nx := fun _ μ' => fgt P .non μ', rt := fgt P } (startD N__law_pick.length ds) μ := by
  rintro ds μ P ⟨a, xs, n, rfl, hb, h0, h1, hx, k⟩
  unfold t__law_pick
  (refine seq_step ?_; simp! only [])
  intro q hq
  have hqa := hb.ne hq
  refine ⟨by decide, fun p hp => ?_⟩
  have hpq : p ≠ q := by
    rintro rfl
    rw [mset_same] at hp
    cases hp
  rw [mset_ne hpq] at hp
  have hpa := hb.ne hp
  have m2q : mset (mset μ q (.lst xs)) p (.lst []) q = some (.lst xs) := by rw [mset_ne hpq.symm, mset_same]
  (refine seq_step ?_; simp! only [lenD_own m2q])
  have hmin : (if (xs.length : Int) < n then (xs.length : Int) else n) = ((min n.toNat xs.length : Nat) : Int) := by split <;> omega
  rw [hmin]
  refine ⟨⟨by omega, by omega⟩, ?_⟩
  rw [Int.toNat_natCast, rangeD_0]
  refine forD_inv (fun i δ μ' => ∃ ys rest x, δ = [some (.own a), some (.lst xs), some (.int n), some (.own q), some (.own p), x] ∧ (ys ++ rest).Perm xs ∧ ys.length = i ∧ μ' q = some (.lst rest) ∧ μ' p = some (.lst ys) ∧ (∀ b, b ≠ a → b ≠ p → b ≠ q → μ' b = μ b) ∧ BagAt μ' a) 0
    ⟨[], xs, none, rfl, List.Perm.refl _, rfl, m2q, mset_same, fun b h1 h2 h3 => by rw [mset_ne h2, mset_ne h3], hb.of (by rw [mset_ne hpa.symm, mset_ne hqa.symm])⟩ (fun _ _ _ _ => trivial) ?_ ?_
  · rintro i x δ μ1 hi ⟨ys, rest, y, rfl, pm, hl, mq, mp, fr, b1⟩ nx hnx
    have hi' : i < min n.toNat xs.length := by have := (List.getElem?_eq_some_iff.mp hi).1; simpa using this
    have hlen := pm.length_eq
    rw [List.length_append] at hlen
    simp! only [tyD_own mp, tyD_own mq, lenD_own mq]
    refine draw_at b1 (by omega) (by omega) fun r μ2 c2 b2 r0 r1 => ?_
    have mq2 : μ2 q = some (.lst rest) := by rw [c2 q hqa]; exact mq
    have mp2 : μ2 p = some (.lst ys) := by rw [c2 p hpa]; exact mp
    obtain ⟨r, rfl⟩ := Int.eq_ofNat_of_zero_le r0
    have hr : r < rest.length := by omega
    refine ⟨q, rest, r, rest[r], rfl, rfl, mq2, by simp [lim]; omega, List.getElem?_eq_getElem hr, ?_⟩
    have mp3 : mset μ2 q (.lst (rest.eraseIdx r)) p = some (.lst ys) := by rw [mset_ne hpq]; exact mp2
    refine ⟨_, mp3, by simp [lim]; omega, hnx _ _ ⟨ys ++ [rest[r]], rest.eraseIdx r, _, rfl, ?_, by simp; omega, by rw [mset_ne hpq.symm, mset_same], mset_same, fun b h1 h2 h3 => by rw [mset_ne h2, mset_ne h3]; exact (c2 b h1).trans (fr b h1 h2 h3), b2.of (by rw [mset_ne hpa.symm, mset_ne hqa.symm])⟩⟩
    rw [List.append_assoc]
    refine (List.Perm.append_left ys ?_).trans pm
    rw [List.eraseIdx_eq_take_drop_succ]
    have e : rest = rest.take r ++ rest[r] :: rest.drop (r + 1) := by rw [← List.drop_eq_getElem_cons hr, List.take_append_drop]
    conv => rhs; rw [e]
    show (rest[r] :: (List.take r rest ++ List.drop (r + 1) rest)).Perm _
    exact List.perm_middle.symm
  · rintro δ μ1 ⟨ys, rest, y, rfl, pm, hl, mq, mp, fr, b1⟩
    simp! only []
    refine ⟨mdel μ1 q, Forget.del, k p ys _ rest pm ?_ hpa hp (by rw [mdel_ne hpq]; exact mp) (fun b h1 h2 => ?_) (b1.of (mdel_ne hqa.symm))⟩
    · simpa using hl
    · by_cases h : b = q
      · rw [h, mdel_same, hq]
      · rw [mdel_ne h]; exact fr b h1 h2 h
end K80
/-! V12 -/
namespace K80
open PySem PySem.Spec PyProof.Rows L2 L3
theorem vc_look_at_counters {K : PySem.W.Frag} : ∀ ds μ P, sp_look_at_counters K ds μ P → t_look_at_counters K { nx := fun _ μ' => P .non μ', rt := P } (startD N_look_at_counters.length ds) μ := by
  rintro ds μ P ⟨deep, names, rfl, h, h0, h1, p⟩
  unfold t_look_at_counters
  (refine seq_step ?_; simp! only [])
  refine ⟨deep, names, rfl, h, h0, h1, ?_⟩
  simp! only [wNever]
  simpa using p
theorem putG_fresh {κ α : Type} [DecidableEq κ] {g : List (κ × α)} {k : κ} {z : α} (h : k ∉ g.map (·.1)) : putG g k z = g ++ [(k, z)] := by
  unfold putG
  rw [if_neg]
  simp only [List.any_eq_true, decide_eq_true_eq, not_exists, not_and]
  rintro x hx rfl
  exact h (List.mem_map_of_mem hx)
theorem dcD_nd {κ α : Type} [DecidableEq κ] (T : KeyT κ) {g : WG} {tt : WT} {tk tv : WE} {vs : List Nat} {chk : Mu → Prop} {P : D → Mu → Prop} {δ : De} {μ : Mu} (e : α → D) (key : α → κ) (val : α → D) (hc : chk μ) : ∀ {xs : List α} {acc : List (κ × D)},
    (∀ x ∈ xs, ∀ (R : D → D → Mu → Prop) (Rn : Mu → Prop), R (T.key (key x)) (val x) μ → g (e x) (wipeD δ vs) fun δ' => tt δ' μ fun b μ1 => if b = true then tk δ' μ1 fun y μ2 => tv δ' μ2 fun z μ3 => R y z μ3 else Rn μ1) →
    (acc.map (·.1) ++ xs.map key).Nodup → P (T.tr (acc ++ xs.map fun x => (key x, val x))) μ → dcD T g tt tk tv vs chk P δ (xs.map e) acc μ
  | [], acc, _, _, p => ⟨hc, by simpa using p⟩
  | x :: xs, acc, h, nd, p => by
    refine ⟨hc, h x List.mem_cons_self (fun y z μ3 => ∃ k, y = T.key k ∧ dcD T g tt tk tv vs chk P δ (xs.map e) (putG acc k z) μ3) _ ⟨key x, rfl, ?_⟩⟩
    have hk : key x ∉ acc.map (·.1) := fun hk => by
      rw [List.map_cons, List.nodup_append] at nd
      exact nd.2.2 _ hk _ List.mem_cons_self rfl
    rw [putG_fresh hk]
    refine dcD_nd T e key val hc (fun z hz => h z (List.mem_cons_of_mem _ hz)) ?_ ?_
    · rw [List.map_append]
      simpa using nd
    · simpa using p
theorem vc_counters_fault {K : PySem.W.Frag} : ∀ ds μ P, sp_counters_fault K ds μ P → t_counters_fault K { nx := fun _ μ' => P .non μ', rt := P } (startD N_counters_fault.length ds) μ := by
  rintro ds μ P ⟨deep, names, rfl, h, h0, h1, p⟩
  have hl := h.len
  unfold t_counters_fault
  (refine seq_step ?_; simp! only [])
  have hne : names ≠ [] := by rintro rfl; simp at hl; omega
  rw [if_neg (by simpa using hne)]
  refine ⟨by simp [lim]; omega, lcD_of D.str (fun _ => .bl true) trivial (fun s hs Ry Rn r1 r2 => ?_) ?_⟩
  · simp! only []
    exact ⟨s, rfl, h.ok s hs, r1 _ rfl⟩
  · refine ⟨names.map fun _ => true, by rw [List.nil_append, all_true]; rfl, ?_⟩
    rw [all_id, if_neg (by simp)]
    (refine seq_step ?_; simp! only [wDc])
    refine ⟨by simp [lim]; omega, ?_⟩
    refine dcD_nd keyK D.str (fun s => Sum.inr s) (fun _ => .bl true) trivial (fun s hs R Rn r => ?_) ?_ ?_
    · simp! only []
      exact r
    · simp only [List.map_nil, List.nil_append]
      refine List.pairwise_map.mpr (List.Pairwise.imp (fun {a b} hab e => hab (Sum.inr.inj e)) h.nd)
    · refine ⟨names.length, by show lenD μ (.dK _) = _; rw [lenD_dK]; simp, ?_⟩
      rw [if_neg (by simp)]
      unfold t_counters_fault_r1
      simp! only []
      exact p
end K80
/-! V13 -/
namespace K80
open PySem PySem.Spec PyProof.Rows L2 L3
theorem lookG_mem {κ α : Type} [DecidableEq κ] {g : List (κ × α)} {k : κ} {z : α} (h : lookG g k = some z) : (k, z) ∈ g := by
  unfold lookG at h
  cases e : g.find? fun kv => decide (kv.1 = k) with
  | none => rw [e] at h; cases h
  | some p =>
    rw [e] at h
    cases h
    have h1 := List.find?_some e
    have h2 := List.mem_of_find?_eq_some e
    rw [← of_decide_eq_true h1]
    exact h2
theorem lookG_none {κ α : Type} [DecidableEq κ] {g : List (κ × α)} {k : κ} (h : lookG g k = none) : k ∉ g.map (·.1) := by
  unfold lookG at h
  cases e : g.find? fun kv => decide (kv.1 = k) with
  | some p => rw [e] at h; cases h
  | none =>
    intro hk
    obtain ⟨p, hp, rfl⟩ := List.mem_map.mp hk
    have := List.find?_eq_none.mp e p hp
    simp at this
theorem enum_get {ts : List D} {i : Nat} {x : D} (h : (enumD ts)[i]? = some x) : ∃ d, ts[i]? = some d ∧ x = .tup [.int (i : Nat), d] := by
  unfold enumD at h
  rw [List.getElem?_map, List.getElem?_zipIdx] at h
  cases e : ts[i]? with
  | none => rw [e] at h; cases h
  | some d => rw [e] at h; cases h; exact ⟨d, rfl, by simp⟩
theorem vc_look_at_touches {K : PySem.W.Frag} : ∀ ds μ P, sp_look_at_touches K ds μ P → t_look_at_touches K { nx := fun _ μ' => fgt P .non μ', rt := fgt P } (startD N_look_at_touches.length ds) μ := by
  rintro ds μ P ⟨deep, ts, rfl, h, k⟩
  have h1 := h.few
  have hne := h.ne
  unfold t_look_at_touches
  (refine seq_step ?_; simp! only [])
  rw [if_neg (by simpa using hne)]
  (refine seq_step ?_; simp! only [wNewK])
  intro p hp
  refine forD_inv (fun i δ μ' => ∃ x3 x4 x5 x6 g, δ = [some (.int deep), some (.lst (ts.map encT)), some (.own p), x3, x4, x5, x6] ∧ μ' p = some (.dK g) ∧ g.length ≤ i ∧ (∀ q ∈ g, ∃ t ∈ ts, q = (Sum.inr t.1, D.int t.2.length)) ∧ ∀ b, b ≠ p → μ' b = μ b) 0
    ⟨none, none, none, none, [], rfl, mset_same, Nat.le_refl _, (by simp), fun b hb => mset_ne hb⟩ (fun _ _ _ _ => trivial) ?_ ?_
  · rintro i x δ μ1 hx ⟨x3, x4, x5, x6, g, rfl, m1, gl, hg, f1⟩ nx hnx
    obtain ⟨d, hd, rfl⟩ := enum_get hx
    rw [List.getElem?_map, Option.map_eq_some_iff] at hd
    obtain ⟨t, ht, rfl⟩ := hd
    have hi : i < ts.length := (List.getElem?_eq_some_iff.mp ht).1
    have htm := List.mem_of_getElem? ht
    have hok := h.ok t htm
    unfold encT
    simp! only []
    (refine seq_step ?_; simp! only [])
    refine ⟨t.1, rfl, hok.nm, true, .bl true, ?_⟩
    rw [if_neg (by simp)]
    refine ⟨by have := hok.few; simp [lim]; omega, lcD_of encS (fun _ => .bl false) trivial (fun s hs Ry Rn r1 r2 => ?_) ?_⟩
    · unfold encS tI
      have e := (hok.row s hs).1
      simp! only [at2_0, List.length_map]
      have := r1 _ rfl
      simpa [e] using this
    · refine ⟨t.2.map fun _ => false, by rw [List.nil_append, List.map_map]; rfl, ?_⟩
      rw [if_neg (by rw [List.any_map]; simp)]
      unfold t_look_at_touches_r1
      have gb : g.length ≤ 100 := by omega
      simp! only [wDSetdK]
      refine ⟨g, m1, g, m1, Sum.inr t.1, rfl, by simp [lim]; omega, fun v hv => ?_, fun hn => ?_⟩
      · obtain ⟨u, hu, e⟩ := hg _ (lookG_mem hv)
        have e1 : t.1 = u.1 := Sum.inr.inj (congrArg Prod.fst e)
        have e3 : v = D.int u.2.length := congrArg Prod.snd e
        have e2 := h.same t htm u hu e1
        subst e3
        refine ⟨_, by rw [List.length_map, ← e2], ?_⟩
        rw [if_neg (by simp [e2])]
        exact hnx _ _ ⟨_, _, _, _, g, rfl, m1, by omega, hg, f1⟩
      · rw [if_neg (by simp)]
        refine hnx _ _ ⟨_, _, _, _, putG g (Sum.inr t.1) _, rfl, mset_same, by have := putG_length g (Sum.inr t.1) (D.int ((t.2.map encS).length : Nat)); omega, fun q hq => ?_, fun b hb => (mset_ne hb).trans (f1 b hb)⟩
        rw [putG_fresh (lookG_none hn)] at hq
        rcases List.mem_append.mp hq with q1 | q1
        · exact hg q q1
        · rw [List.mem_singleton.mp q1]
          exact ⟨t, htm, by rw [List.length_map]⟩
  · rintro δ μ1 ⟨x3, x4, x5, x6, g, rfl, m1, gl, hg, f1⟩
    refine ⟨mdel μ1 p, Forget.del, ?_⟩
    have : mdel μ1 p = μ := by
      funext b
      by_cases hb : b = p
      · rw [hb, mdel_same, hp]
      · rw [mdel_ne hb, f1 b hb]
    rw [this]
    exact k
end K80
/-! V14 -/
namespace K80
open PySem PySem.Spec PyProof.Rows L2 L3
theorem vc_integer_text {K : PySem.W.Frag} : ∀ ds μ P, sp_integer_text K ds μ P → t_integer_text K { nx := fun _ μ' => P .non μ', rt := P } (startD N_integer_text.length ds) μ := by
  rintro ds μ P ⟨i, rfl, h, p⟩
  have h' : i.natAbs < 1000000 := h
  unfold t_integer_text
  (refine seq_step ?_; simp! only [])
  have hl : i.natAbs.log2 < 1920 := Nat.lt_of_lt_of_le (PySem.Flt.log2_lt_of (k := 20) (by decide) (Nat.lt_of_lt_of_le h' (by decide))) (by decide)
  rw [if_pos (by simp; omega), if_pos (by simp; omega)]
  exact ⟨hl, p⟩
theorem intT_len {i : Int} (h : smallI i) : (intT i).length ≤ 7 := by
  have e := int_text_length_le10 (a := i) (k := 6) (by decide) h
  show (Str.ofString (toString i)).length ≤ 7
  rw [PySem.ofString_length]
  omega
theorem zipD2 {α β : Type} {xs : List α} {ys : List β} {e : α → D} {f : β → D} : List.zipWith L3.pairD (xs.map e) (ys.map f) = (xs.zip ys).map fun p => D.tup [e p.1, f p.2] := by
  rw [List.zip_eq_zipWith, List.map_zipWith, List.zipWith_map]; rfl
theorem take_flat {α β : Type} {l : List α} {i : Nat} {x : α} (f : α → List β) (h : l[i]? = some x) : (l.take (i + 1)).flatMap f = (l.take i).flatMap f ++ f x := by
  rw [List.take_succ, h, List.flatMap_append]
  simp
theorem term_len (name : Str) (m : Int) : (termW name m).length ≤ 2 := by unfold termW; split <;> simp
theorem flat_len (names : List (Str × Int)) : (names.flatMap fun p => termW p.1 p.2).length ≤ 2 * names.length := by
  induction names with
  | nil => simp
  | cons x l ih =>
    rw [List.flatMap_cons, List.length_append, List.length_cons]
    have := term_len x.1 x.2
    omega
theorem abs_if (m : Int) : (if m < 0 then -m else m) = (m.natAbs : Int) := by split <;> omega
theorem len_add (s t : Str) : (s ++ t).length = s.length + t.length := by rw [len_cps, cps_add, List.length_append, ← len_cps, ← len_cps]
theorem str_ext {s t : Str} (h : s.cps.toList = t.cps.toList) : s = t := by
  have hc : s.cps = t.cps := Array.toList_inj.mp h
  cases s
  cases t
  exact congrArg Str.mk hc
theorem empty_add (s : Str) : Str.empty ++ s = s := str_ext (by rw [cps_add]; rfl)
theorem len_empty : Str.empty.length = 0 := rfl
theorem len_star : (Str.ofString "*").length = 1 := by decide +kernel
theorem len_plus : (Str.ofString "+").length = 1 := by decide +kernel
theorem len_minus : (Str.ofString "-").length = 1 := by decide +kernel
theorem len_space : (Str.ofString " ").length = 1 := by decide +kernel
theorem sum_le {l : List Str} {k : Nat} (h : ∀ w ∈ l, w.length ≤ k) : (l.map (·.length)).sum ≤ k * l.length := by
  induction l with
  | nil => simp
  | cons x l ih =>
    have h1 := h x List.mem_cons_self
    have h2 := ih fun w hw => h w (List.mem_cons_of_mem _ hw)
    simp only [List.map_cons, List.sum_cons, List.length_cons, Nat.mul_succ]
    omega
theorem termW_le {name : Str} {m : Int} (hn : name.length ≤ 6) (hm : smallI m) : ∀ w ∈ termW name m, w.length ≤ 20 := by
  intro w hw
  unfold termW at hw
  split at hw
  · cases hw
  · have hi : smallI (m.natAbs : Int) := by unfold smallI at *; simpa using hm
    have l7 := intT_len hi
    rcases List.mem_cons.mp hw with rfl | hw
    · split
      · rw [len_plus]; omega
      · rw [len_minus]; omega
    · rw [List.mem_singleton.mp hw]
      split
      · omega
      · rw [len_add, len_add, len_star]; omega
theorem offW_le {o : Int} (ho : smallI o) : ∀ w ∈ offW o, w.length ≤ 20 := by
  intro w hw
  unfold offW at hw
  split at hw
  · cases hw
  · have hi : smallI (o.natAbs : Int) := by unfold smallI at *; simpa using ho
    have l7 := intT_len hi
    rcases List.mem_cons.mp hw with rfl | hw
    · split
      · rw [len_plus]; omega
      · rw [len_minus]; omega
    · rw [List.mem_singleton.mp hw]; omega
theorem offW_len (o : Int) : (offW o).length ≤ 2 := by unfold offW; split <;> simp
theorem vc_subscript_text {K : PySem.W.Frag} : ∀ ds μ P, sp_subscript_text K ds μ P → t_subscript_text K { nx := fun _ μ' => fgt P .non μ', rt := fgt P } (startD N_subscript_text.length ds) μ := by
  rintro ds μ P ⟨deep, names, s, rfl, hn, hd, hl, hr, ho, p⟩
  unfold t_subscript_text tI
  (refine seq_step ?_; simp! only [])
  refine ⟨by decide, fun q hq => ?_⟩
  (refine seq_step ?_; simp! only [])
  rw [zipD2]
  have zl : (names.zip s.1).length ≤ deep := by rw [List.length_zip]; omega
  refine forD_inv (fun i δ μ' => ∃ x4 x5 x6, δ = [some (.lst (names.map .str)), some (.tup (s.1.map .int)), some (.int s.2), some (.own q), x4, x5, x6] ∧ μ' q = some (.lst ((((names.zip s.1).take i).flatMap fun p => termW p.1 p.2).map .str)) ∧ ∀ b, b ≠ q → μ' b = μ b) 0
    ⟨none, none, none, rfl, by rw [mset_same]; rfl, fun b hb => mset_ne hb⟩ (fun _ _ _ _ => trivial) ?_ ?_
  · rintro i x δ μ1 hx ⟨x4, x5, x6, rfl, m1, f1⟩ nx hnx
    rw [Nat.zero_add] at m1 hnx
    rw [List.getElem?_map, Option.map_eq_some_iff] at hx
    obtain ⟨⟨name, m⟩, hz, rfl⟩ := hx
    have hm := List.of_mem_zip (List.mem_of_getElem? hz)
    have hw := (hn.ok name hm.1).w.len
    have hs := hr m hm.2
    have hs' : m.natAbs < 1000000 := hs
    have hb : (((names.zip s.1).take i).flatMap fun p => termW p.1 p.2).length ≤ 100 := by
      have := flat_len ((names.zip s.1).take i)
      have := List.length_take_le' i (names.zip s.1)
      omega
    simp! only []
    by_cases h0 : m = 0
    · subst h0
      rw [if_neg (by simp)]
      exact hnx _ _ ⟨_, _, _, rfl, by rw [m1, take_flat _ hz]; simp [termW], f1⟩
    · rw [if_pos (by simpa using h0)]
      generalize hW : (((names.zip s.1).take i).flatMap fun p => termW p.1 p.2) = W at m1 hb
      have h2 : ∀ (F : DEnds) (sg : Str), F.nx = nx → sg = (if m > 0 then "+" else "-") → wSeq (wAsg (wCB gAbs (wCons (wVar 5) wNil)) 6)
            (wDrop (wBM "list" gApp (wVar 3) (wCons (wIf (wTest (wOp gEq (wVar 6) (wC (D.int 1)))) (wVar 4) (wJoined [wFmt (wCall (sp_integer_text K) (wCons (wVar 6) wNil)), wC (D.str (Str.ofString "*")), wFmt (wVar 4)])) wNil))) F
            [some (.lst (names.map .str)), some (.tup (s.1.map .int)), some (.int s.2), some (.own q), some (.str name), some (.int m), x6] (mset μ1 q (.lst (W.map .str ++ [.str sg]))) := by
        intro F sg hF hsg
        have fin : ∀ tm : Str, tm = (if m.natAbs = 1 then name else intT m.natAbs ++ "*" ++ name) → nx [some (.lst (names.map .str)), some (.tup (s.1.map .int)), some (.int s.2), some (.own q), some (.str name), some (.int m), some (.int m.natAbs)] (mset μ1 q (.lst (W.map .str ++ [.str sg] ++ [.str tm]))) := by
          intro tm htm
          refine hnx _ _ ⟨_, _, _, rfl, ?_, fun b hb => (mset_ne hb).trans (f1 b hb)⟩
          rw [mset_same, take_flat _ hz, hW, htm, hsg]
          simp [termW, h0]
          split <;> rfl
        (refine seq_step ?_; simp! only [abs_if])
        have ma : mset μ1 q (.lst (W.map .str ++ [.str sg])) q = some (.lst (W.map .str ++ [.str sg])) := mset_same
        simp! only [tyD_own ma]
        by_cases h1 : m.natAbs = 1
        · rw [if_pos (by simp; omega)]
          refine ⟨by simp [lim]; omega, ?_⟩
          rw [hF]
          exact fin name (by rw [if_pos h1])
        · rw [if_neg (by simp; omega)]
          simp! only [wJoined, wJs]
          have hi : smallI (m.natAbs : Int) := by unfold smallI; simpa using hs'
          have l7 := intT_len hi
          refine ⟨_, rfl, hi, ?_⟩
          show _ ∧ _
          simp only [empty_add, len_add, len_star, true_and]
          refine ⟨by simp [lim]; omega, by simp [lim]; omega, by simp [lim]; omega, by simp [lim]; omega, by simp [lim]; omega, _, ma, by simp [lim]; omega, ?_⟩
          rw [mset_mset, hF]
          exact fin _ (by rw [if_neg h1])
      (refine seq_step ?_; simp! only [tyD_own m1])
      by_cases hp : 0 < m
      · rw [if_pos (by simpa using hp)]
        exact ⟨_, m1, by simp [lim]; omega, h2 _ _ rfl (by rw [if_pos hp])⟩
      · rw [if_neg (by simpa using hp)]
        exact ⟨_, m1, by simp [lim]; omega, h2 _ _ rfl (by rw [if_neg hp])⟩
  · rintro δ μ1 ⟨x4, x5, x6, rfl, m1, f1⟩
    have ew : (((names.zip s.1).take (0 + ((names.zip s.1).map fun p => D.tup [D.str p.1, D.int p.2]).length)).flatMap fun p => termW p.1 p.2) = rowW names s.1 := by
      rw [Nat.zero_add, List.length_map, List.take_length]
      rfl
    rw [ew] at m1
    have rl : (rowW names s.1).length ≤ 100 := by
      have := flat_len (names.zip s.1)
      unfold rowW
      omega
    have wl : (subW names s).length ≤ 102 := by
      unfold subW
      rw [List.length_append]
      have := offW_len s.2
      omega
    have ww : ∀ w ∈ subW names s, w.length ≤ 20 := by
      intro w hw
      unfold subW rowW at hw
      rcases List.mem_append.mp hw with h | h
      · obtain ⟨⟨nm, m⟩, hz, hw⟩ := List.mem_flatMap.mp h
        have hm := List.of_mem_zip hz
        exact termW_le (hn.ok nm hm.1).w.len.2 (hr m hm.2) w hw
      · exact offW_le ho w h
    -- behind the offset
    have tail : ∀ (F : DEnds) μ2, F.rt = fgt P → μ2 q = some (.lst ((subW names s).map .str)) → (∀ b, b ≠ q → μ2 b = μ b) → wSeq (wIfS (L3.wNot (L3.wTru (wVar 3))) (wRet (wC (D.str (Str.ofString "0")))) wNext) (t_subscript_text_r1 K) F [some (.lst (names.map .str)), some (.tup (s.1.map .int)), some (.int s.2), some (.own q), x4, x5, x6] μ2 := by
      intro F μ2 hF m2 f2
      have back : mdel μ2 q = μ := by
        funext b
        by_cases hb : b = q
        · rw [hb, mdel_same, hq]
        · rw [mdel_ne hb, f2 b hb]
      have fin : fgt P (.str (subTxt names s)) μ2 := ⟨mdel μ2 q, Forget.del, by rw [back]; exact p⟩
      cases hW : subW names s with
      | nil =>
        rw [hW] at m2
        (refine seq_step ?_; simp! only [truD_own m2])
        rw [hF]
        unfold subTxt at fin
        rw [hW] at fin
        simpa using fin
      | cons w ws =>
        rw [hW] at m2
        (refine seq_step ?_; simp! only [truD_own m2])
        rw [if_neg (by simp)]
        unfold t_subscript_text_r1
        simp! only [itemD_own m2, sliceD_own m2, tyD_own m2, at_0]
        have e2 : subTxt names s = if w = "+" then Txt.join " " ws else Txt.join " " (w :: ws) := by unfold subTxt; rw [hW]
        rw [e2] at fin
        rw [hW] at wl ww
        have sl := sum_le ww
        rw [List.length_cons] at wl sl
        have sl2 := sum_le fun x hx => ww x (List.mem_cons_of_mem _ hx)
        by_cases h1 : w = "+"
        · rw [if_pos h1] at fin
          rw [if_pos (by simpa using h1)]
          have ec : L3.cutD (D.str w :: ws.map D.str) (some 1) none = ws.map D.str := cut_lo _ 1
          refine ⟨ws, ec, ?_, ?_⟩
          · rw [len_space]; omega
          · rw [hF]; exact fin
        · rw [if_neg h1] at fin
          rw [if_neg (by simpa using h1)]
          refine ⟨w :: ws, by rw [walkD_own m2], ?_, ?_⟩
          · rw [len_space, List.length_cons]; omega
          · rw [hF]; exact fin
    simp! only []
    by_cases h0 : s.2 = 0
    · (refine seq_step ?_; simp! only [])
      rw [if_neg (by simpa using h0)]
      refine tail _ μ1 rfl ?_ f1
      rw [m1]
      simp [subW, offW, h0]
    · (refine seq_step ?_; simp! only [tyD_own m1])
      rw [if_pos (by simpa using h0)]
      (refine seq_step ?_; simp! only [tyD_own m1])
      have h3 : ∀ sg : Str, sg = (if s.2 > 0 then "+" else "-") → ∃ x, μ1 q = some (MO.lst x) ∧ x.length ≤ lim ∧ tyD "list" (mset μ1 q (MO.lst (x ++ [D.str sg]))) (D.own q) ∧
            sp_integer_text K [D.int (if s.2 < 0 then -s.2 else s.2)] (mset μ1 q (MO.lst (x ++ [D.str sg]))) fun d μ1 =>
              ∃ x, μ1 q = some (MO.lst x) ∧ x.length ≤ lim ∧
                    wSeq (wIfS (L3.wNot (L3.wTru (wVar 3))) (wRet (wC (D.str (Str.ofString "0")))) wNext) (t_subscript_text_r1 K) { nx := fun x μ' => fgt P D.non μ', rt := fgt P }
                      [some (D.lst (List.map D.str names)), some (D.tup (List.map D.int s.1)), some (D.int s.2), some (D.own q), x4, x5, x6] (mset μ1 q (MO.lst (x ++ [d]))) := by
        intro sg hsg
        have hi : smallI (s.2.natAbs : Int) := by unfold smallI at *; simpa using ho
        refine ⟨_, m1, by simp [lim]; omega, by rw [tyD_own mset_same], (s.2.natAbs : Int), by rw [abs_if], hi, _, mset_same, by simp [lim]; omega, ?_⟩
        rw [mset_mset]
        refine tail _ _ rfl ?_ fun b hb => (mset_ne hb).trans (f1 b hb)
        rw [mset_same, hsg]
        simp [subW, offW, h0]
        split <;> rfl
      by_cases hp : 0 < s.2
      · rw [if_pos (by simpa using hp)]
        exact h3 _ (by rw [if_pos hp])
      · rw [if_neg (by simpa using hp)]
        exact h3 _ (by rw [if_neg hp])
end K80
/-! V15 -/
namespace K80
open PySem PySem.Spec PyProof.Rows L2 L3
theorem join_le (y : Str) : ∀ l : List Str, (Txt.join y l).length ≤ (l.map (·.length)).sum + l.length * y.length := by
  intro l
  rw [TL.join_eq]
  induction l with
  | nil => exact Nat.zero_le _
  | cons x l ih =>
    cases l with
    | nil => show x.length ≤ _; simp
    | cons z r =>
      show (x ++ y ++ Str.join y (z :: r)).length ≤ _
      rw [len_add, len_add]
      simp only [List.map_cons, List.sum_cons, List.length_cons, Nat.succ_mul] at ih ⊢
      omega
theorem sub_len {deep : Nat} {names : List Str} {s : SubT} (hn : CtrsOk deep names) (hd : deep ≤ 10) (hr : ∀ x ∈ s.1, smallI x) (ho : smallI s.2) (hl : s.1.length = deep) : (subTxt names s).length ≤ 1000 := by
  have wl : (subW names s).length ≤ 22 := by
    unfold subW rowW
    rw [List.length_append]
    have := offW_len s.2
    have := flat_len (names.zip s.1)
    have : (names.zip s.1).length ≤ 10 := by rw [List.length_zip]; omega
    omega
  have ww : ∀ w ∈ subW names s, w.length ≤ 20 := by
    intro w hw
    unfold subW rowW at hw
    rcases List.mem_append.mp hw with h | h
    · obtain ⟨⟨nm, m⟩, hz, hw⟩ := List.mem_flatMap.mp h
      have hm := List.of_mem_zip hz
      exact termW_le (hn.ok nm hm.1).w.len.2 (hr m hm.2) w hw
    · exact offW_le ho w h
  unfold subTxt
  cases hW : subW names s with
  | nil => show (Str.ofString "0").length ≤ 1000; decide +kernel
  | cons w ws =>
    rw [hW] at wl ww
    rw [List.length_cons] at wl
    have j1 := join_le " " ws
    have j2 := join_le " " (w :: ws)
    have s1 := sum_le ww
    have s2 := sum_le fun x hx => ww x (List.mem_cons_of_mem _ hx)
    have l1 : (" " : Str).length = 1 := len_space
    rw [l1] at j1 j2
    simp only [List.length_cons] at s1 j2
    show (if w = "+" then Txt.join " " ws else Txt.join " " (w :: ws)).length ≤ 1000
    split <;> omega
theorem len_t1 : (Str.ofString "touch ").length = 6 := by decide +kernel
theorem len_t2 : (Str.ofString " :").length = 2 := by decide +kernel
theorem len_t3 : (Str.ofString " : ").length = 3 := by decide +kernel
theorem len_t4 : (Str.ofString " , ").length = 3 := by decide +kernel
theorem vc_touch_text {K : PySem.W.Frag} : ∀ ds μ P, sp_touch_text K ds μ P → t_touch_text K { nx := fun _ μ' => P .non μ', rt := P } (startD N_touch_text.length ds) μ := by
  rintro ds μ P ⟨deep, names, t, rfl, hn, hd, ht, p⟩
  have h1 := ht.nm
  have h2 := ht.few
  unfold t_touch_text
  (refine seq_step ?_; simp! only [])
  refine ⟨by simp [lim]; omega, lcD_of encS (fun s => .str (subTxt names s)) trivial (fun s hs Ry Rn r1 r2 => ?_) ?_⟩
  · obtain ⟨a1, a2, a3⟩ := ht.row s hs
    unfold encS
    simp! only [tI]
    exact ⟨deep, names, s, rfl, hn, hd, a1, a2, a3, r1 _ rfl⟩
  · have hsl : ∀ w ∈ t.2.map (subTxt names), w.length ≤ 1000 := fun w hw => by
      obtain ⟨s, hs, rfl⟩ := List.mem_map.mp hw
      obtain ⟨a1, a2, a3⟩ := ht.row s hs
      exact sub_len hn hd a2 a3 a1
    have em : ([] ++ t.2.map fun s => D.str (subTxt names s)) = (t.2.map (subTxt names)).map D.str := by rw [List.nil_append, List.map_map]; rfl
    rw [em]
    (refine seq_step ?_; simp! only [])
    have sl := sum_le hsl
    rw [List.length_map] at sl
    have jl := join_le " , " (t.2.map (subTxt names))
    have l4 : (" , " : Str).length = 3 := len_t4
    rw [l4, List.length_map] at jl
    by_cases h0 : t.2 = []
    · rw [if_pos (by simp [h0])]
      have e : touchTxt names t = "touch " ++ t.1 ++ " :" := by unfold touchTxt; rw [if_pos h0]
      rw [e] at p
      simp! only [wJoined, wJs, empty_add]
      simp only [len_add, len_t1, len_t2]
      exact ⟨by simp [lim], by simp [lim]; omega, by simp [lim]; omega, by simp [lim]; omega, p⟩
    · rw [if_neg (by simp [h0])]
      have e : touchTxt names t = "touch " ++ t.1 ++ " : " ++ Txt.join " , " (t.2.map (subTxt names)) := by unfold touchTxt; rw [if_neg h0]
      rw [e] at p
      unfold t_touch_text_r1
      simp! only [wJoined, wJs, empty_add]
      simp only [len_add, len_t1, len_t3, len_t4, List.length_map]
      refine ⟨by simp [lim], by simp [lim]; omega, by simp [lim]; omega, by simp [lim]; omega, ?_⟩
      exact ⟨by omega, by simp only [lim]; omega, p⟩
end K80
/-! V16 -/
namespace K80
open PySem PySem.Spec PyProof.Rows L2 L3
theorem len_for : (Str.ofString "for ").length = 4 := by decide +kernel
theorem len_nest : (Str.ofString "nest").length = 4 := by decide +kernel
theorem len_done : (Str.ofString "done").length = 4 := by decide +kernel
theorem len_nl : (Str.ofString "\n").length = 1 := by decide +kernel
theorem len_nil : (Str.ofString "").length = 0 := by decide +kernel
theorem touch_len {deep : Nat} {names : List Str} {t : TouchT} (hn : CtrsOk deep names) (hd : deep ≤ 10) (ht : SmallT deep t) : (touchTxt names t).length ≤ 11000 := by
  have h1 := ht.nm
  have h2 := ht.few
  have hsl : ∀ w ∈ t.2.map (subTxt names), w.length ≤ 1000 := fun w hw => by
    obtain ⟨s, hs, rfl⟩ := List.mem_map.mp hw
    obtain ⟨a1, a2, a3⟩ := ht.row s hs
    exact sub_len hn hd a2 a3 a1
  have sl := sum_le hsl
  rw [List.length_map] at sl
  have jl := join_le " , " (t.2.map (subTxt names))
  have l4 : (" , " : Str).length = 3 := len_t4
  rw [l4, List.length_map] at jl
  unfold touchTxt
  split
  · rw [len_add, len_add]
    have a : ("touch " : Str).length = 6 := len_t1
    have b : (" :" : Str).length = 2 := len_t2
    omega
  · rw [len_add, len_add, len_add]
    have a : ("touch " : Str).length = 6 := len_t1
    have b : (" : " : Str).length = 3 := len_t3
    omega
theorem names_join {deep : Nat} {names : List Str} (hn : CtrsOk deep names) (hd : deep ≤ 10) : (names.map (·.length)).sum ≤ 60 ∧ (Txt.join " " names).length ≤ 100 := by
  have h1 := sum_le fun w hw => (hn.ok w hw).w.len.2
  have h2 := hn.len
  have h3 := join_le " " names
  have l : (" " : Str).length = 1 := len_space
  rw [l] at h3
  omega
theorem vc_nest_text {K : PySem.W.Frag} : ∀ ds μ P, sp_nest_text K ds μ P → t_nest_text K { nx := fun _ μ' => fgt P .non μ', rt := fgt P } (startD N_nest_text.length ds) μ := by
  rintro ds μ P ⟨deep, n, rfl, hn, p⟩
  obtain ⟨j1, j2⟩ := names_join hn.ctrs hn.dl
  have hl := hn.ctrs.len
  have hd := hn.dl
  have hf := hn.few
  unfold t_nest_text
  (refine seq_step ?_; simp! only [])
  refine ⟨by rw [len_space]; omega, by rw [len_for]; simp only [lim]; omega, by decide, fun q hq => ?_⟩
  (refine seq_step ?_; simp! only [])
  refine forD_inv (fun i δ μ' => ∃ x3 x4 x5, δ = [some (.lst (n.1.map .str)), some (.lst (n.2.map encT)), some (.own q), x3, x4, x5] ∧ μ' q = some (.lst ((([("nest" : Str), "for " ++ Txt.join " " n.1] : List Str) ++ (n.2.take i).map (touchTxt n.1)).map .str)) ∧ ∀ b, b ≠ q → μ' b = μ b) 0
    ⟨none, none, none, rfl, by rw [mset_same]; rfl, fun b hb => mset_ne hb⟩ (fun _ _ _ _ => trivial) ?_ ?_
  · rintro i x δ μ1 hx ⟨x3, x4, x5, rfl, m1, f1⟩ nx hnx
    rw [Nat.zero_add] at m1 hnx
    rw [List.getElem?_map, Option.map_eq_some_iff] at hx
    obtain ⟨t, ht, rfl⟩ := hx
    have hi : i < n.2.length := (List.getElem?_eq_some_iff.mp ht).1
    unfold encT
    simp! only [tyD_own m1]
    refine ⟨deep, n.1, t, rfl, hn.ctrs, hd, hn.tch t (List.mem_of_getElem? ht), _, m1, by simp [lim]; omega, hnx _ _ ⟨_, _, _, rfl, ?_, fun b hb => (mset_ne hb).trans (f1 b hb)⟩⟩
    rw [mset_same, List.take_succ, ht]
    simp
  · rintro δ μ1 ⟨x3, x4, x5, rfl, m1, f1⟩
    rw [Nat.zero_add, List.length_map, List.take_length] at m1
    simp! only []
    (refine seq_step ?_; simp! only [tyD_own m1])
    refine ⟨_, m1, by simp [lim]; omega, ?_⟩
    have m2 : mset μ1 q (.lst ((([("nest" : Str), "for " ++ Txt.join " " n.1] : List Str) ++ n.2.map (touchTxt n.1)).map .str ++ [.str "done"])) q = some (.lst ((nestLines n).map .str)) := by
      rw [mset_same]
      simp [nestLines]
    have nl : (nestLines n).length ≤ 23 := by simp [nestLines]; omega
    have ll : ∀ w ∈ nestLines n, w.length ≤ 11000 := by
      intro w hw
      unfold nestLines at hw
      rcases List.mem_append.mp hw with hw | hw
      · rcases List.mem_append.mp hw with hw | hw
        · rcases List.mem_cons.mp hw with rfl | hw
          · have := len_nest; show (Str.ofString "nest").length ≤ 11000; omega
          · rw [List.mem_singleton.mp hw, len_add]
            have a : ("for " : Str).length = 4 := len_for
            omega
        · obtain ⟨t, ht, rfl⟩ := List.mem_map.mp hw
          exact touch_len hn.ctrs hd (hn.tch t ht)
      · rw [List.mem_singleton.mp hw]
        have := len_done; show (Str.ofString "done").length ≤ 11000; omega
    have f2 : ∀ b, b ≠ q → mset μ1 q (.lst ((([("nest" : Str), "for " ++ Txt.join " " n.1] : List Str) ++ n.2.map (touchTxt n.1)).map .str ++ [.str "done"])) b = μ b := fun b hb => (mset_ne hb).trans (f1 b hb)
    generalize mset μ1 q (.lst ((([("nest" : Str), "for " ++ Txt.join " " n.1] : List Str) ++ n.2.map (touchTxt n.1)).map .str ++ [.str "done"])) = μ2 at m2 f2 ⊢
    simp! only [walkD_own m2]
    refine ⟨by rw [List.length_map]; simp only [lim]; omega, lcD_of D.str (fun l => .str (l ++ "\n")) m2 (fun l hl Ry Rn r1 r2 => ?_) ?_⟩
    · simp! only []
      have := ll l hl
      exact ⟨by rw [len_nl]; simp only [lim]; omega, r1 _ rfl⟩
    · refine ⟨(nestLines n).map fun l => l ++ "\n", by rw [List.nil_append, List.map_map]; rfl, ?_, mdel _ q, Forget.del, ?_⟩
      · have := sum_le (l := (nestLines n).map fun l => l ++ "\n") (k := 11001) fun w hw => by
          obtain ⟨l, hl, rfl⟩ := List.mem_map.mp hw
          rw [len_add]
          have := ll l hl
          have b : ("\n" : Str).length = 1 := len_nl
          omega
        rw [len_nil]
        rw [List.length_map] at this
        omega
      · have back : mdel μ2 q = μ := by
          funext b
          by_cases hb : b = q
          · rw [hb, mdel_same, hq]
          · rw [mdel_ne hb, f2 b hb]
        rw [back]
        exact p
end K80
/-! V17 -/
namespace K80
open PySem PySem.Spec PyProof.Rows L2 L3
theorem vc_Nest_eq {K : PySem.W.Frag} : ∀ ds μ P, sp_Nest_eq K ds μ P → t_Nest_eq K { nx := fun _ μ' => P .non μ', rt := P } (startD N_Nest_eq.length ds) μ := by
  rintro ds μ P ⟨n, m, rfl, p⟩
  unfold t_Nest_eq nestI
  simp! only [gIsC]
  have hl : ∀ n : NestT, (nestF n).lookup ("text" : Str) = some (.str (nestTxt n)) := fun n => by
    unfold nestF
    simp only [List.lookup]
    rfl
  exact ⟨_, hl n, _, hl m, _, rfl, p⟩
theorem vc__law_copied {K : PySem.W.Frag} : ∀ ds μ P, sp__law_copied K ds μ P → t__law_copied K { nx := fun _ μ' => P .non μ', rt := P } (startD N__law_copied.length ds) μ := by
  rintro ds μ P ⟨deep, n, rfl, hn, p⟩
  have hf := hn.tchs.few
  unfold t__law_copied encN
  simp! only [at2_0, at2_1, wMake]
  refine ⟨by simp only [lim, List.length_map]; omega, lcD_of encT encT trivial (fun t ht Ry Rn r1 r2 => ?_) ?_⟩
  · unfold encT
    simp! only []
    exact ⟨by decide, r1 _ rfl⟩
  · intro a ha
    rw [List.nil_append]
    refine ⟨a, deep, n, rfl, hn, mset_same, rfl, ?_⟩
    refine ⟨_, mset_same, ?_⟩
    rw [mset_mset, mdel_mset ha]
    exact p
end K80
/-! V18 -/
namespace K80
open PySem PySem.Spec PyProof.Rows L2 L3
theorem NGood.small {deep : Nat} {n : NestT} (h : NGood deep n) : SmallN deep n := ⟨h.ctrs, h.dl, h.tchs.few, fun t ht => by
  have g := h.tchs.ok t ht
  have := g.nm.len
  exact ⟨by omega, g.few, g.row⟩⟩
theorem putD_len (f : Str) (v : D) : ∀ gs : List (Str × D), (putD f v gs).length ≤ gs.length + 1
  | [] => Nat.le_refl _
  | (g, x) :: r => by
    unfold putD
    split
    · simp
    · rw [List.length_cons, List.length_cons]
      have := putD_len f v r
      omega
theorem vc_Nest_init {K : PySem.W.Frag} : ∀ ds μ P, sp_Nest_init K ds μ P → t_Nest_init K { nx := fun _ μ' => fgt P .non μ', rt := fgt P } (startD N_Nest_init.length ds) μ := by
  rintro ds μ P ⟨a, deep, n, rfl, hn, ha, p⟩
  have hf := hn.tchs.few
  have hl := hn.ctrs.len
  have hs := hn.small
  unfold t_Nest_init
  (refine seq_step ?_; simp! only [])
  (refine seq_step ?_; simp! only [])
  refine ⟨by decide, fun q hq => ?_⟩
  have hqa : q ≠ a := by rintro rfl; rw [hq] at ha; cases ha
  (refine seq_step ?_; simp! only [])
  refine forD_inv (fun i δ μ' => ∃ x5 x6 x7 x8, δ = [some (.own a), some (.lst (n.1.map .str)), some (.lst (n.2.map encT)), some (.lst (n.1.map .str)), some (.own q), x5, x6, x7, x8] ∧ μ' q = some (.lst ((n.2.take i).map encT)) ∧ ∀ b, b ≠ q → μ' b = μ b) 0
    ⟨none, none, none, none, rfl, by rw [mset_same]; rfl, fun b hb => mset_ne hb⟩ (fun _ _ _ _ => trivial) ?_ ?_
  · rintro i x δ μ1 hx ⟨x5, x6, x7, x8, rfl, m1, f1⟩ nx hnx
    rw [Nat.zero_add] at m1 hnx
    rw [List.getElem?_map, Option.map_eq_some_iff] at hx
    obtain ⟨t, ht, rfl⟩ := hx
    have hi : i < n.2.length := (List.getElem?_eq_some_iff.mp ht).1
    have hfew := (hn.tchs.ok t (List.mem_of_getElem? ht)).few
    unfold encT
    simp! only [tyD_own m1]
    refine ⟨by simp only [lim, List.length_map]; omega, lcD_of encS encS trivial (fun s hs Ry Rn r1 r2 => ?_) ?_⟩
    · unfold encS tI
      simp! only []
      exact ⟨by decide, r1 _ rfl⟩
    · refine ⟨by decide, _, m1, by simp only [lim, List.length_map, List.length_take]; omega, hnx _ _ ⟨_, _, _, _, rfl, ?_, fun b hb => (mset_ne hb).trans (f1 b hb)⟩⟩
      rw [mset_same, List.take_succ, ht]
      simp [encT]
  · rintro δ μ1 ⟨x5, x6, x7, x8, rfl, m1, f1⟩
    rw [Nat.zero_add, List.length_map, List.take_length] at m1
    simp! only []
    have back : mdel μ1 q = μ := by
      funext b
      by_cases hb : b = q
      · rw [hb, mdel_same, hq]
      · rw [mdel_ne hb, f1 b hb]
    refine seq_step ?_
    refine ⟨q, _, rfl, m1, ?_⟩
    rw [back]
    simp! only [MO.tree]
    refine ⟨deep, n.1, rfl, hn.ctrs, hn.d0, hn.dl, ?_⟩
    (refine seq_step ?_; simp! only [List.length_map])
    refine ⟨deep, n.2, by rw [hl], hn.tchs, ?_⟩
    (refine seq_step ?_; simp! only [])
    have l1 := putD_len "_counters" (D.lst (n.1.map .str)) []
    have l2 := putD_len "_touches" (D.lst (n.2.map encT)) (putD "_counters" (D.lst (n.1.map .str)) [])
    have l3 := putD_len "deep" (D.int n.1.length) (putD "_touches" (D.lst (n.2.map encT)) (putD "_counters" (D.lst (n.1.map .str)) []))
    have l4 := putD_len "wide" (D.int n.2.length) (putD "deep" (D.int n.1.length) (putD "_touches" (D.lst (n.2.map encT)) (putD "_counters" (D.lst (n.1.map .str)) [])))
    simp only [List.length_nil] at l1
    have e : putD "text" (D.str (nestTxt n)) (putD "wide" (D.int n.2.length) (putD "deep" (D.int n.1.length) (putD "_touches" (D.lst (n.2.map encT)) (putD "_counters" (D.lst (n.1.map .str)) [])))) = nestF n := by
      have n0 : ¬ ("_counters" : Str) = "_touches" := by decide +kernel
      have n1 : ¬ ("_counters" : Str) = "deep" := by decide +kernel
      have n2 : ¬ ("_touches" : Str) = "deep" := by decide +kernel
      have n3 : ¬ ("_counters" : Str) = "wide" := by decide +kernel
      have n4 : ¬ ("_touches" : Str) = "wide" := by decide +kernel
      have n5 : ¬ ("deep" : Str) = "wide" := by decide +kernel
      have n6 : ¬ ("_counters" : Str) = "text" := by decide +kernel
      have n7 : ¬ ("_touches" : Str) = "text" := by decide +kernel
      have n8 : ¬ ("deep" : Str) = "text" := by decide +kernel
      have n9 : ¬ ("wide" : Str) = "text" := by decide +kernel
      simp only [putD, nestF, if_neg n0, if_neg n1, if_neg n2, if_neg n3, if_neg n4, if_neg n5, if_neg n6, if_neg n7, if_neg n8, if_neg n9]
    refine ⟨[], ha, by decide, ?_⟩
    (refine seq_step ?_; simp! only [])
    refine ⟨by omega, ?_⟩
    (refine seq_step ?_; simp! only [])
    refine ⟨by omega, ?_⟩
    (refine seq_step ?_; simp! only [List.length_map])
    refine ⟨by omega, deep, n, rfl, hs, ?_⟩
    refine ⟨_, mset_same, by omega, _, fun _ => .inl rfl, ?_⟩
    rw [mset_mset, e]
    exact p
end K80
/-! V19 -/
namespace K80
open PySem PySem.Spec PyProof.Rows L2 L3
theorem vc_dot {K : PySem.W.Frag} : ∀ ds μ P, sp_dot K ds μ P → t_dot K { nx := fun _ μ' => P .non μ', rt := P } (startD N_dot.length ds) μ := by
  rintro ds μ P ⟨xs, ys, rfl, hl, hb, p⟩
  unfold t_dot tI
  simp! only []
  rw [zipD]
  refine ⟨by simp [lim]; omega, lcD_of _ (fun p => .int (p.1 * p.2)) (by simp) (fun p hp Ry Rn h1 h2 => ?_) ?_⟩
  · simp! only []
    exact ⟨hb p hp, h1 _ rfl⟩
  · exact ⟨((xs.zip ys).map fun (p : Int × Int) => p.1 * p.2), by rw [List.nil_append, walkL_lst, List.map_map]; rfl, p⟩
theorem vc_moved {K : PySem.W.Frag} : ∀ ds μ P, sp_moved K ds μ P → t_moved K { nx := fun _ μ' => P .non μ', rt := P } (startD N_moved.length ds) μ := by
  rintro ds μ P ⟨row, step, t, rfl, hl, hb, p⟩
  unfold t_moved tI
  simp! only []
  rw [zipD]
  refine ⟨by simp [lim]; omega, lcD_of _ (fun p => .int (p.1 + t * p.2)) (by simp) (fun p hp Ry Rn h1 h2 => ?_) ?_⟩
  · simp! only []
    exact ⟨hb p.2 (List.of_mem_zip hp).2, h1 _ rfl⟩
  · unfold tI movedI at p
    rw [List.map_map] at p
    exact ⟨_, rfl, by rw [List.nil_append]; exact p⟩
theorem vc__law_home {K : PySem.W.Frag} : ∀ ds μ P, sp__law_home K ds μ P → t__law_home K { nx := fun _ μ' => P .non μ', rt := P } (startD N__law_home.length ds) μ := by
  rintro ds μ P ⟨place, sides, rfl, hl, hb, p⟩
  unfold t__law_home tI
  simp! only []
  rw [zipD]
  refine ⟨by simp [lim]; omega, lcD_of _ (fun p => .int (p.1.fdiv p.2)) (by simp) (fun p hp Ry Rn h1 h2 => ?_) ?_⟩
  · simp! only []
    exact ⟨hb p.2 (List.of_mem_zip hp).2, h1 _ rfl⟩
  · unfold tI homeI at p
    rw [List.map_map] at p
    exact ⟨_, rfl, by rw [List.nil_append]; exact p⟩
end K80
/-! V20 -/
namespace K80
open PySem PySem.Spec PyProof.Rows L2 L3 PySem.W
/-! ### orders -/
theorem dataLt_tI (x y : List Int) : dataLt (.tuple (x.map .int)) (.tuple (y.map .int)) = ltL x y := by
  rw [dataLt_tuple]
  show rowLt (x.map .int) (y.map .int) = _
  rw [dataLt_ints]
  rfl
theorem leI_eq {α : Type} (f : α → List Int) : leI f = fun a b => TotLt.le ltL (f a) (f b) := by
  funext a b
  show (!dataLt (.tuple ((f b).map .int)) (.tuple ((f a).map .int))) = _
  rw [dataLt_tI]
  rfl
theorem encI_depth (l : List Int) : (encI l).depth ≤ 50 := by
  have : ∀ l : List Int, PyData.depthAll (l.map .int) ≤ 1 := fun l => by
    induction l with
    | nil => simp [PyData.depthAll]
    | cons x l ih => simp only [List.map_cons, PyData.depthAll, PyData.depth]; omega
  have h := this l
  show (PyData.tuple (l.map .int)).depth ≤ 50
  simp only [PyData.depth]
  omega
theorem vc__law_points {K : PySem.W.Frag} : ∀ ds μ P, sp__law_points K ds μ P → t__law_points K { nx := fun _ μ' => P .non μ', rt := P } (startD N__law_points.length ds) μ := by
  rintro ds μ P ⟨a, deep, many, rfl, hb, h0, h4, h60, k⟩
  unfold t__law_points
  simp! only [wSortSet]
  refine ⟨⟨by omega, by omega⟩, ?_⟩
  rw [Int.toNat_natCast, rangeD_0]
  refine ⟨by simp [lim]; omega, lcD_inv (fun i acc μ' => ∃ ls : List (List Int), acc = ls.map tupI ∧ ls.length = i ∧ (∀ l ∈ ls, l.length = deep ∧ ∀ x ∈ l, x.natAbs ≤ 4) ∧ Ch a μ μ' ∧ BagAt μ' a) 0 ⟨[], rfl, rfl, by simp, Ch.refl _ _, hb⟩ (fun _ _ _ _ => trivial) ?_ ?_⟩
  · rintro i x acc μ1 hx ⟨ls, rfl, hl, hr, c1, b1⟩ Ry Rn r1 r2
    simp! only []
    refine ⟨⟨by omega, by omega⟩, ?_⟩
    rw [Int.toNat_natCast, rangeD_0]
    refine ⟨by simp [lim]; omega, lcD_inv (fun j acc μ' => ∃ l : List Int, acc = l.map D.int ∧ l.length = j ∧ (∀ x ∈ l, x.natAbs ≤ 4) ∧ Ch a μ μ' ∧ BagAt μ' a) 0 ⟨[], rfl, rfl, by simp, c1, b1⟩ (fun _ _ _ _ => trivial) ?_ ?_⟩
    · rintro j y acc μ2 hy ⟨l, rfl, hj, hs, c2, b2⟩ Ry' Rn' s1 s2
      simp! only []
      refine ⟨by decide, of_ints (xs := [0, 1, 2, -1, 3, 4, -2, -3, 0, 1]) b2 (by decide) (by decide) fun n μ3 hn c3 b3 => ?_⟩
      have hn' : n.natAbs ≤ 4 := by simp at hn; omega
      refine s1 _ _ ⟨l ++ [n], by simp, by simp; omega, fun x hx => ?_, c2.trans c3, b3⟩
      rcases List.mem_append.mp hx with h | h
      · exact hs x h
      · rw [List.mem_singleton.mp h]; exact hn'
    · rintro acc μ2 ⟨l, rfl, hj, hs, c2, b2⟩
      have hj' : l.length = deep := by simp at hj; omega
      refine ⟨l.map .int, rfl, r1 _ _ ⟨ls ++ [l], by simp [tupI], by simp; omega, fun q hq => ?_, c2, b2⟩⟩
      rcases List.mem_append.mp hq with h | h
      · exact hr q h
      · rw [List.mem_singleton.mp h]; exact ⟨hj', hs⟩
  · rintro acc μ1 ⟨ls, rfl, hl, hr, c1, b1⟩
    have hl' : ls.length = many := by simp at hl; omega
    refine ⟨ls, rfl, by omega, fun l hl2 => ⟨fun e => ?_, encI_depth l⟩, fun acc nd hm ys pm => ?_⟩
    · have := (hr l hl2).1
      rw [e] at this
      simp at this; omega
    · rw [leI_eq]
      have hp : (ys.mergeSort fun a b => TotLt.le ltL (id a) (id b)).Perm acc := (List.mergeSort_perm _ _).trans pm
      have hin : ∀ x, x ∈ (ys.mergeSort fun a b => TotLt.le ltL (id a) (id b)) → x ∈ ls := fun x hx => (hm x).mp (hp.mem_iff.mp hx)
      refine k _ μ1 ⟨fun p hp' => (hr p (hin p hp')).1, fun p hp' => (hr p (hin p hp')).2, ?_, ?_⟩ c1 b1
      · have := nodup_len (hp.nodup_iff.mpr nd) hin
        omega
      · refine ((ltL_tot.sorted ys).and (hp.nodup_iff.mpr nd)).imp fun {a b} q => ?_
        cases e : ltL a b with
        | true => rfl
        | false => exact absurd (ltL_tot.tri e (by have := q.1; unfold TotLt.le at this; simpa using this)) q.2
theorem vc__law_place {K : PySem.W.Frag} : ∀ ds μ P, sp__law_place K ds μ P → t__law_place K { nx := fun _ μ' => P .non μ', rt := P } (startD N__law_place.length ds) μ := by
  rintro ds μ P ⟨n, inv, x, rfl, h4, hq, hx, p⟩
  have hl := hq.len
  unfold t__law_place tI
  simp! only [List.length_map]
  refine ⟨⟨by omega, by omega⟩, ?_⟩
  rw [Int.toNat_natCast, rangeD_0]
  refine ⟨by simp [lim]; omega, lcD_of _ (fun a => .int (((x.zip inv).map fun p => p.1 * p.2.getD a 0).sum)) trivial (fun a ha Ry Rn h1 h2 => ?_) ?_⟩
  · simp! only []
    have ha' : a < n := by simp at ha; omega
    have ez : List.zipWith pairD (x.map D.int) (inv.map lI) = (x.zip inv).map fun p => D.tup [.int p.1, lI p.2] := by
      rw [List.zip_eq_zipWith, List.map_zipWith, List.zipWith_map]; rfl
    rw [ez]
    refine ⟨by simp [lim]; have := hx.len; omega, lcD_of _ (fun p => .int (p.1 * p.2.getD a 0)) (by simp) (fun p hp Ry' Rn' g1 g2 => ?_) ?_⟩
    · unfold lI
      have hp1 := List.of_mem_zip hp
      have hr := hq.row p.2 hp1.2
      have hs := hx.sm p.1 hp1.1
      have hlt : a < p.2.length := by omega
      simp! only []
      refine ⟨.int (p.2.getD a 0), L3.atI_nat ?_, _, rfl, mulL (by omega) (by omega), g1 _ rfl⟩
      rw [List.getElem?_map, List.getD_eq_getElem?_getD, List.getElem?_eq_getElem hlt]; rfl
    · refine ⟨(x.zip inv).map fun p => p.1 * p.2.getD a 0, by rw [List.nil_append, walkL_lst, List.map_map]; rfl, h1 _ rfl⟩
  · refine ⟨_, rfl, ?_⟩
    rw [List.nil_append]
    unfold placeI tI at p
    rw [List.map_map] at p
    exact p
theorem vc_row_text {K : PySem.W.Frag} : ∀ ds μ P, sp_row_text K ds μ P → t_row_text K { nx := fun _ μ' => P .non μ', rt := P } (startD N_row_text.length ds) μ := by
  rintro ds μ P ⟨r, rfl, hl, hs, p⟩
  unfold t_row_text tI
  simp! only []
  refine ⟨by simp [lim]; omega, lcD_of D.int (fun x => .str (intT x)) trivial (fun x hx Ry Rn h1 h2 => ?_) ?_⟩
  · simp! only []
    exact ⟨x, rfl, hs x hx, h1 _ rfl⟩
  · have hl' : ∀ w ∈ r.map intT, w.length ≤ 7 := fun w hw => by
      obtain ⟨x, hx, rfl⟩ := List.mem_map.mp hw
      exact intT_len (hs x hx)
    have sl := sum_le hl'
    rw [List.length_map] at sl
    refine ⟨r.map intT, by rw [List.nil_append, walkD_lst, List.map_map]; rfl, ?_, p⟩
    rw [len_space, List.length_map]
    omega
theorem rowTxt_len {r : List Int} (hl : r.length ≤ 10) (hs : ∀ x ∈ r, smallI x) : (rowTxt r).length ≤ 100 := by
  have hl' : ∀ w ∈ r.map intT, w.length ≤ 7 := fun w hw => by
    obtain ⟨x, hx, rfl⟩ := List.mem_map.mp hw
    exact intT_len (hs x hx)
  have sl := sum_le hl'
  have jl := join_le " " (r.map intT)
  have l1 : (" " : Str).length = 1 := len_space
  rw [List.length_map] at sl jl
  rw [l1] at jl
  unfold rowTxt
  omega
theorem vc_rows_text {K : PySem.W.Frag} : ∀ ds μ P, sp_rows_text K ds μ P → t_rows_text K { nx := fun _ μ' => P .non μ', rt := P } (startD N_rows_text.length ds) μ := by
  rintro ds μ P ⟨pts, rfl, hl, hs, p⟩
  unfold t_rows_text
  (refine seq_step ?_; simp! only [])
  by_cases h0 : pts = []
  · subst h0
    simpa [rowsTxt] using p
  · rw [if_neg (by simpa using h0)]
    unfold t_rows_text_r1
    simp! only []
    refine ⟨by simp [lim]; omega, lcD_of tI (fun x => .str (rowTxt x)) trivial (fun x hx Ry Rn h1 h2 => ?_) ?_⟩
    · simp! only []
      exact ⟨x, rfl, (hs x hx).1, (hs x hx).2, h1 _ rfl⟩
    · have hl' : ∀ w ∈ pts.map rowTxt, w.length ≤ 100 := fun w hw => by
        obtain ⟨x, hx, rfl⟩ := List.mem_map.mp hw
        exact rowTxt_len (hs x hx).1 (hs x hx).2
      have sl := sum_le hl'
      rw [List.length_map] at sl
      refine ⟨pts.map rowTxt, by rw [List.nil_append, walkD_lst, List.map_map]; rfl, ?_, ?_⟩
      · rw [len_t4, List.length_map]; omega
      · unfold rowsTxt at p
        rw [if_neg h0] at p
        exact p
section
variable {K : PySem.W.Frag} {n : NestT} {pts rows inv : List (List Int)} {sides : List Int}
theorem lot_nest : (lotF K n pts).lookup ("nest" : Str) = some (nestI K n) := rfl
theorem lot_points : (lotF K n pts).lookup ("_points" : Str) = some (.lst (pts.map tI)) := rfl
theorem lot_known : (lotF K n pts).lookup ("_known" : Str) = some (.dT (pts.map fun p => (kI p, D.bl true))) := rfl
theorem nest_deep : (nestF n).lookup ("deep" : Str) = some (.int n.1.length) := rfl
theorem block_nest : (blockF K n rows sides inv).lookup ("nest" : Str) = some (nestI K n) := rfl
theorem block_sides : (blockF K n rows sides inv).lookup ("_sides" : Str) = some (.lst (sides.map .int)) := rfl
theorem block_duals : (blockF K n rows sides inv).lookup ("_duals" : Str) = some (.lst ((dualsOf inv).map tI)) := rfl
end
theorem vc_Lot_points {K : PySem.W.Frag} : ∀ ds μ P, sp_Lot_points K ds μ P → t_Lot_points K { nx := fun _ μ' => P .non μ', rt := P } (startD N_Lot_points.length ds) μ := by
  rintro ds μ P ⟨n, pts, rfl, hl, p⟩
  unfold t_Lot_points lotI
  simp! only [lot_points]
  exact p
theorem vc_Block_sides {K : PySem.W.Frag} : ∀ ds μ P, sp_Block_sides K ds μ P → t_Block_sides K { nx := fun _ μ' => P .non μ', rt := P } (startD N_Block_sides.length ds) μ := by
  rintro ds μ P ⟨n, rows, sides, inv, rfl, hl, p⟩
  unfold t_Block_sides blockI
  simp! only [block_sides]
  exact p
theorem vc_look_alike {K : PySem.W.Frag} : ∀ ds μ P, sp_look_alike K ds μ P → t_look_alike K { nx := fun _ μ' => P .non μ', rt := P } (startD N_look_alike.length ds) μ := by
  rintro ds μ P ⟨n, m, pts, qs, rfl, e, p⟩
  unfold t_look_alike lotI
  simp! only [gOwn, lot_nest]
  refine ⟨_, rfl, _, rfl, n, m, rfl, _, rfl, ?_⟩
  rw [if_neg (by simp [e])]
  exact p
theorem vc_check_sides {K : PySem.W.Frag} : ∀ ds μ P, sp_check_sides K ds μ P → t_check_sides K { nx := fun _ μ' => P .non μ', rt := P } (startD N_check_sides.length ds) μ := by
  rintro ds μ P ⟨n, sides, rfl, h4, hs, p⟩
  have hl := hs.len
  unfold t_check_sides
  (refine seq_step ?_; simp! only [List.length_map, hl])
  rw [if_neg (by simp)]
  unfold t_check_sides_r1
  simp! only []
  refine forD_inv (fun i δ μ' => (∃ x3 x4, δ = [some (.int n), some (.lst (sides.map .int)), some (.int 1), x3, x4]) ∧ μ' = μ) 0 ⟨⟨none, none, rfl⟩, rfl⟩ (fun _ _ _ _ => trivial) ?_ ?_
  · rintro i x δ μ1 hx ⟨⟨x3, x4, rfl⟩, rfl⟩ nx hnx
    obtain ⟨d, hd, rfl⟩ := enum_get hx
    rw [List.getElem?_map, Option.map_eq_some_iff] at hd
    obtain ⟨s, hs1, rfl⟩ := hd
    have := hs.lo s (List.mem_of_getElem? hs1)
    simp! only []
    rw [if_neg (by simp; omega)]
    exact hnx _ _ ⟨⟨_, _, rfl⟩, rfl⟩
  · rintro δ μ1 ⟨_, rfl⟩
    exact p
theorem vc_is_basis {K : PySem.W.Frag} : ∀ ds μ P, sp_is_basis K ds μ P → t_is_basis K { nx := fun _ μ' => P .non μ', rt := P } (startD N_is_basis.length ds) μ := by
  rintro ds μ P ⟨n, rows, rfl, hb, p⟩
  have hl := hb.len
  have h4 := hb.n4
  unfold t_is_basis
  (refine seq_step ?_; simp! only [List.length_map, hl])
  rw [if_neg (by simp)]
  refine ⟨by simp [lim]; omega, lcD_of tI (fun _ => .bl false) trivial (fun r hr Ry Rn h1 h2 => ?_) ?_⟩
  · have e := hb.row r hr
    have := h1 _ rfl
    unfold tI
    simp! only [List.length_map]
    simpa [e] using this
  · refine ⟨rows.map fun _ => false, by rw [List.nil_append, walkL_lst, List.map_map]; rfl, ?_⟩
    rw [if_neg (by rw [List.any_map]; simp)]
    unfold t_is_basis_r1
    simp! only []
    exact ⟨n, rows, rfl, hb, by simpa using p⟩
end K80
/-! V22 -/
namespace K80
open PySem PySem.Spec PyProof.Rows L2 L3 PySem.W

theorem vc_Block_place {K : PySem.W.Frag} : ∀ ds μ P, sp_Block_place K ds μ P → t_Block_place K { nx := fun _ μ' => P .non μ', rt := P } (startD N_Block_place.length ds) μ := by
  rintro ds μ P ⟨deep, n, rows, sides, inv, x, rfl, hn, h4, hq, hx, p⟩
  have hl := hx.len
  have hil := hq.len
  unfold t_Block_place blockI tI
  (refine seq_step ?_; simp! only [List.length_map, block_nest])
  unfold nestI
  simp! only [nest_deep]
  rw [if_neg (by simp; omega)]
  unfold t_Block_place_r1
  simp! only [block_duals]
  have hdl : (dualsOf inv).length = deep := by unfold dualsOf; simp [hil]
  refine ⟨by simp [lim]; omega, lcD_of tI (fun r => .int (dotI r x)) (by trivial) (fun r hr Ry Rn h1 h2 => ?_) ?_⟩
  · have hr' : r.length ≤ 4 := by
      unfold dualsOf at hr
      obtain ⟨a, _, rfl⟩ := List.mem_map.mp hr
      rw [List.length_map]; omega
    simp! only []
    exact ⟨r, x, rfl, by omega, fun p hp => mulR (by have := hx.sm p.2 (List.of_mem_zip hp).2; omega) (by have := hx.sm p.2 (List.of_mem_zip hp).2; omega), h1 _ rfl⟩
  · refine ⟨_, rfl, ?_⟩
    rw [List.nil_append]
    have e : (dualsOf inv).map (fun r => D.int (dotI r x)) = (placeI inv x).map D.int := by
      unfold dualsOf placeI
      rw [List.map_map, List.map_map]
      refine List.map_congr_left fun a _ => ?_
      show D.int (dotI (inv.map fun r => r.getD a 0) x) = D.int _
      unfold dotI
      congr 2
      have : ∀ (l : List (List Int)) (x : List Int), (((l.map fun r => r.getD a 0).zip x).map fun (p : Int × Int) => p.1 * p.2) = (x.zip l).map fun p => p.1 * p.2.getD a 0 := by
        intro l
        induction l with
        | nil => intro x; simp
        | cons r l ih =>
          intro x
          cases x with
          | nil => simp
          | cons y x =>
            simp only [List.map_cons, List.zip_cons_cons, List.cons.injEq]
            exact ⟨Int.mul_comm _ _, ih x⟩
      exact this inv x
    rw [e]
    exact p
theorem placeI_len (inv : List (List Int)) (x : List Int) : (placeI inv x).length = inv.length := by unfold placeI; simp
theorem homeI_of {place sides : List Int} : (place.zip sides).map (fun p => D.int (p.1.fdiv p.2)) = (homeI place sides).map D.int := by unfold homeI; rw [List.map_map]; rfl
theorem vc_Block_home {K : PySem.W.Frag} : ∀ ds μ P, sp_Block_home K ds μ P → t_Block_home K { nx := fun _ μ' => P .non μ', rt := P } (startD N_Block_home.length ds) μ := by
  rintro ds μ P ⟨deep, n, rows, sides, inv, x, rfl, hn, h4, hq, hs, hx, p⟩
  have hil := hq.len
  unfold t_Block_home
  simp! only []
  refine ⟨_, rfl, rfl, deep, n, rows, sides, inv, x, rfl, hn, h4, hq, hx, ?_⟩
  unfold blockI tI
  simp! only [block_sides]
  rw [zipD]
  refine ⟨by have := placeI_len inv x; simp [lim]; omega, lcD_of _ (fun p => .int (p.1.fdiv p.2)) (by simp) (fun p hp Ry Rn h1 h2 => ?_) ?_⟩
  · simp! only []
    have h2 := hs.lo p.2 (List.of_mem_zip hp).2
    have h3 := hs.hi p.2 (List.of_mem_zip hp).2
    exact ⟨divS (by omega) (by omega), h1 _ rfl⟩
  · refine ⟨_, rfl, ?_⟩
    rw [List.nil_append, homeI_of]
    exact p
end K80
/-! V25 -/
namespace K80
open PySem PySem.Spec PyProof.Rows L2 L3 PySem.W
def pr2 (p : Int × Nat) : PyData := .tuple [.int p.1, .int p.2]
theorem minD_pr : ∀ (xs : List (Int × Nat)) (x : Int × Nat), ∃ m, m ∈ x :: xs ∧ minD (pr2 x) (xs.map pr2) = pr2 m ∧ ∀ y ∈ x :: xs, m.1 ≤ y.1
  | [], x => ⟨x, List.mem_cons_self, rfl, fun y hy => by rw [List.mem_singleton.mp hy]; exact Int.le_refl _⟩
  | y :: ys, x => by
    have key : ∃ z, (z = x ∨ z = y) ∧ z.1 ≤ x.1 ∧ z.1 ≤ y.1 ∧ minD (pr2 x) ((y :: ys).map pr2) = minD (pr2 z) (ys.map pr2) := by
      rw [List.map_cons]
      have e : dataLt (pr2 y) (pr2 x) = decide (y.1 < x.1 ∨ (y.1 = x.1 ∧ (y.2 : Int) < x.2)) := dataLt_ii _ _ _ _
      by_cases h : y.1 < x.1 ∨ (y.1 = x.1 ∧ (y.2 : Int) < x.2)
      · exact ⟨y, .inr rfl, by omega, Int.le_refl _, by show minD (if dataLt (pr2 y) (pr2 x) = true then pr2 y else pr2 x) (ys.map pr2) = _; rw [e, decide_eq_true h, if_pos rfl]⟩
      · exact ⟨x, .inl rfl, Int.le_refl _, by omega, by show minD (if dataLt (pr2 y) (pr2 x) = true then pr2 y else pr2 x) (ys.map pr2) = _; rw [e, decide_eq_false h, if_neg Bool.false_ne_true]⟩
    obtain ⟨z, hz, h1, h2, e⟩ := key
    obtain ⟨m, hm, em, hle⟩ := minD_pr ys z
    refine ⟨m, ?_, e.trans em, fun w hw => ?_⟩
    · rcases List.mem_cons.mp hm with q | q
      · rw [q]; rcases hz with q | q <;> rw [q] <;> simp
      · exact List.mem_cons_of_mem _ (List.mem_cons_of_mem _ q)
    · have hz' := hle z List.mem_cons_self
      rcases List.mem_cons.mp hw with q | q
      · rw [q]; omega
      · rcases List.mem_cons.mp q with q | q
        · rw [q]; omega
        · exact hle w (List.mem_cons_of_mem _ q)
theorem toPyL_pr (xs : List (Int × Nat)) : toPyL (xs.map fun p => D.tup [.int p.1, .int (p.2 : Nat)]) = some (xs.map pr2) := by
  induction xs with
  | nil => rfl
  | cons x xs ih => simp only [List.map_cons, toPyL, toPy, ih, Option.map_some]; rfl
theorem pr_depth (xs : List (Int × Nat)) : PyData.depthAll (xs.map pr2) ≤ 50 := by
  have : PyData.depthAll (xs.map pr2) ≤ 2 := by
    induction xs with
    | nil => simp [PyData.depthAll]
    | cons x xs ih => simp only [List.map_cons, PyData.depthAll, pr2, PyData.depth] at *; omega
  omega
theorem pr_alike (xs : List (Int × Nat)) : AlikeAll (xs.map pr2) := ⟨fun x hx y hy => by
  obtain ⟨a, _, rfl⟩ := List.mem_map.mp hx
  obtain ⟨b, _, rfl⟩ := List.mem_map.mp hy
  simp [pr2, alike, alikeAll], fun x hx e => by
  obtain ⟨a, _, rfl⟩ := List.mem_map.mp hx
  cases e⟩
theorem pr2_inj {a b : Int × Nat} (h : pr2 a = pr2 b) : a = b := by
  unfold pr2 at h
  injection h with h
  injection h with h1 h2
  injection h2 with h2 _
  injection h1 with h1
  injection h2 with h2
  exact Prod.ext h1 (by omega)
theorem row_at {L : List (List Int)} {k : Nat} (h : k < L.length) : atI (L.map tI) (k : Int) = some (tI (L.getD k [])) := by
  refine L3.atI_nat ?_
  rw [List.getElem?_map, List.getD_eq_getElem?_getD, List.getElem?_eq_getElem h]; rfl
theorem ent_at {r : List Int} {j : Nat} (h : j < r.length) : atI (r.map D.int) (j : Int) = some (.int (r.getD j 0)) := by
  refine L3.atI_nat ?_
  rw [List.getElem?_map, List.getD_eq_getElem?_getD, List.getElem?_eq_getElem h]; rfl
theorem rangeD_2 (a b : Nat) : rangeD (a : Int) ((b : Int) - a).toNat = (List.range (b - a)).map fun (i : Nat) => D.int ((a + i : Nat) : Int) := by
  unfold rangeD
  rw [show ((b : Int) - a).toNat = b - a by omega]
  exact List.map_congr_left fun i _ => by rw [Int.natCast_add]
theorem vc_bring_least {K : PySem.W.Frag} : ∀ ds μ P, sp_bring_least K ds μ P → t_bring_least K { nx := fun _ μ' => P .non μ', rt := P } (startD N_bring_least.length ds) μ := by
  rintro ds μ P ⟨p, n, c, L, rfl, hm, h4, hc, hl, hr, ⟨k0, hk0, ck0, live⟩, k⟩
  unfold t_bring_least
  (refine seq_step ?_; simp! only [lenD_own hm, itemD_own hm, List.length_map, hl])
  refine ⟨⟨by omega, by omega⟩, ⟨by omega, by omega⟩, ?_⟩
  rw [rangeD_2]
  have hrow : ∀ k, k < n → c < (L.getD k []).length := fun k hk => hr _ (getD_mem0 (by omega))
  refine ⟨by simp [lim]; omega, lcD_if _ (fun i => D.tup [.int ((en L (c + i) c).natAbs : Nat), .int ((c + i : Nat) : Int)]) (fun i => decide (en L (c + i) c ≠ 0)) trivial (fun i hi Ry Rn h1 h2 => ?_) ?_⟩
  · have hi' : c + i < n := by simp at hi; omega
    have hA := row_at (L := L) (k := c + i) (by omega)
    have hB : itemD μ (tI (L.getD (c + i) [])) (c : Int) = some (.int (en L (c + i) c)) := ent_at (hrow _ hi')
    simp! only [itemD_own hm, hA, hB]
    by_cases q : en L (c + i) c = 0
    · have := h2 (by simp [q])
      simpa [q] using this
    · have := h1 _ (by simp [q]; rfl)
      rw [abs_if]
      simp [q]
      exact ⟨by decide, this⟩
  · rw [List.nil_append]
    let xs : List (Int × Nat) := ((List.range (n - c)).filter fun i => decide (en L (c + i) c ≠ 0)).map fun i => ((((en L (c + i) c).natAbs : Nat) : Int), c + i)
    have exs : (((List.range (n - c)).filter fun i => decide (en L (c + i) c ≠ 0)).map fun i => D.tup [.int ((en L (c + i) c).natAbs : Nat), .int ((c + i : Nat) : Int)]) = xs.map fun p => D.tup [.int p.1, .int (p.2 : Nat)] := by
      show _ = (List.map _ _).map _
      rw [List.map_map]; rfl
    have hmem : ∀ x, x ∈ xs ↔ ∃ k, k < n ∧ c ≤ k ∧ en L k c ≠ 0 ∧ x = ((((en L k c).natAbs : Nat) : Int), k) := fun x => by
      show x ∈ List.map _ _ ↔ _
      rw [List.mem_map]
      constructor
      · rintro ⟨i, hi, rfl⟩
        rw [List.mem_filter] at hi
        obtain ⟨h1, h2⟩ := hi
        rw [List.mem_range] at h1
        exact ⟨c + i, by omega, by omega, by simpa using h2, rfl⟩
      · rintro ⟨k, hk, ck, hne, rfl⟩
        refine ⟨k - c, ?_, by rw [show c + (k - c) = k by omega]⟩
        rw [List.mem_filter, List.mem_range, show c + (k - c) = k by omega]
        exact ⟨by omega, by simpa using hne⟩
    have hne : xs ≠ [] := fun e => by
      have := (hmem ((((en L k0 c).natAbs : Nat) : Int), k0)).mpr ⟨k0, hk0, ck0, live, rfl⟩
      rw [e] at this; cases this
    rw [exs]
    (refine seq_step ?_; simp! only [gMinD])
    refine ⟨xs.map pr2, toPyL_pr xs, by simpa using hne, pr_alike xs, pr_depth xs, fun i x hx hp => ?_⟩
    cases eX : xs with
    | nil => exact absurd eX hne
    | cons y ys =>
      obtain ⟨m, hmm, em, hle⟩ := minD_pr ys y
      rw [← eX] at hmm hle
      have e1 : minOf (xs.map pr2) = pr2 m := by rw [eX]; exact em
      rw [e1, List.getElem?_map] at hp
      rw [List.getElem?_map] at hx
      cases ei : xs[i]? with
      | none => rw [ei] at hp; cases hp
      | some z =>
        rw [ei] at hp hx
        have ez : z = m := pr2_inj (Option.some.inj hp)
        subst ez
        cases hx
        obtain ⟨k1, hk1, ck1, l1, rfl⟩ := (hmem z).mp hmm
        have le1 : Least n c (en L) k1 := ⟨hk1, ck1, l1, fun k hk ck lk => by
          have := hle _ ((hmem _).mpr ⟨k, hk, ck, lk, rfl⟩)
          dsimp only at this
          omega⟩
        have hC := row_at (L := L) (k := c) (by omega)
        have hK := row_at (L := L) (k := k1) (by omega)
        simp! only []
        (refine seq_step ?_; simp! only [itemD_own hm, hC])
        (refine seq_step ?_; simp! only [itemD_own hm, hK])
        refine ⟨_, hm, c, ixN_nat (by rw [List.length_map]; omega), ?_⟩
        refine ⟨k1, ixN_nat (by rw [List.length_set, List.length_map]; omega), ?_⟩
        have := k k1 le1
        unfold swapL at this
        rw [List.map_set, List.map_set] at this
        exact this
/-! ### a column -/
theorem swapL_en {L : List (List Int)} {a b k j : Nat} (ha : a < L.length) (hb : b < L.length) : en (swapL L a b) k j = en L (if k = b then a else if k = a then b else k) j := by
  unfold swapL
  rw [en_set (by rw [List.length_set]; exact hb), en_set ha]
  by_cases h : k = b
  · rw [if_pos h, if_pos h]; rfl
  · rw [if_neg h, if_neg h]
    by_cases h2 : k = a
    · rw [if_pos h2, if_pos h2]; rfl
    · rw [if_neg h2, if_neg h2]
theorem swapL_row {L : List (List Int)} {a b m : Nat} (ha : a < L.length) (hb : b < L.length) (h : ∀ r ∈ L, r.length = m) : ∀ r ∈ swapL L a b, r.length = m := fun r hr => by
  unfold swapL at hr
  rcases mem_set_or hr with q | q
  · rcases mem_set_or q with q | q
    · exact h r q
    · rw [q]; exact h _ (getD_mem0 hb)
  · rw [q]; exact h _ (getD_mem0 ha)
theorem swapL_len {L : List (List Int)} {a b : Nat} : (swapL L a b).length = L.length := by unfold swapL; rw [List.length_set, List.length_set]
/-- in the midst of column c: the lead stands in row c -/
structure Mid (n : Nat) (B : List (List Int)) (c A : Nat) (L : List (List Int)) : Prop where
  n4 : n ≤ 4
  cn : c < n
  len : L.length = n
  row : ∀ r ∈ L, r.length = 2 * n
  good : GoodF n (en B) c (en L)
  eu : Eu n c A (en L)
theorem live_of {n c : Nat} {B M : Fn2} (g : GoodF n B c M) (hc : c < n) : ∃ k, k < n ∧ c ≤ k ∧ M k c ≠ 0 := by
  refine Classical.byContradiction fun q => ?_
  have : ∀ k, k < n → c ≤ k → M k c = 0 := fun k hk ck => Classical.byContradiction fun z => q ⟨k, hk, ck, z⟩
  have := g.pivot (p := 0) hc fun k hk ck => by rw [this k hk ck]; exact Int.dvd_refl 0
  have := Int.zero_dvd.mp this
  omega
def sw (c k1 k : Nat) : Nat := if k = k1 then c else if k = c then k1 else k
theorem sw_sw {c k1 k : Nat} : sw c k1 (sw c k1 k) = k := by
  unfold sw
  by_cases a : k = k1
  · subst a; simp
  · by_cases b : k = c
    · subst b; simp [a]
    · simp [a, b]
theorem sw_lt {n c k1 k : Nat} (hc : c < n) (h1 : k1 < n) (h : k < n) : sw c k1 k < n := by unfold sw; (repeat' split) <;> omega
theorem sw_ge {c k1 k : Nat} (h1 : c ≤ k1) (h : c ≤ k) : c ≤ sw c k1 k := by unfold sw; (repeat' split) <;> omega
theorem sw_fix {c k1 k : Nat} (h1 : c ≤ k1) (h : k < c) : sw c k1 k = k := by unfold sw; (repeat' split) <;> omega
theorem Eu.swap {n c A k1 : Nat} {M M' : Fn2} (hc : c < n) (h1 : k1 < n) (ck : c ≤ k1) (e : ∀ k, k < n → ∀ j, j < 2 * n → M' k j = M (sw c k1 k) j) (h : Eu n c A M) : Eu n c A M' := by
  rcases h with h | ⟨P, X, h⟩
  · exact .inl fun k hk j hj => by rw [e k hk j hj]; exact h _ (sw_lt hc h1 hk) j hj
  · refine .inr ⟨P, X, fun k hk j hj => by rw [e k hk j hj]; exact h.bd _ (sw_lt hc h1 hk) j hj, fun k hk hck => by rw [e k hk c (by omega)]; exact h.col _ (sw_lt hc h1 hk) (sw_ge ck hck), ?_, h.top, fun a b ha hb ca cb hab la lb => ?_⟩
    · obtain ⟨s, hs, hsg⟩ := h.sg
      exact ⟨s, hs, fun k hk hck => by rw [e k hk c (by omega)]; exact hsg _ (sw_lt hc h1 hk) (sw_ge ck hck)⟩
    · rw [e a ha c (by omega)] at la
      rw [e b hb c (by omega)] at lb
      obtain ⟨k0, hk0, ck0, l0, b0⟩ := h.two (sw c k1 a) (sw c k1 b) (sw_lt hc h1 ha) (sw_lt hc h1 hb) (sw_ge ck ca) (sw_ge ck cb) (fun z => hab (by have := congrArg (sw c k1) z; rwa [sw_sw, sw_sw] at this)) la lb
      refine ⟨sw c k1 k0, sw_lt hc h1 hk0, sw_ge ck ck0, ?_, ?_⟩
      · rw [e _ (sw_lt hc h1 hk0) c (by omega), sw_sw]; exact l0
      · rw [e _ (sw_lt hc h1 hk0) c (by omega), sw_sw]; exact b0
/-- the lead is brought -/
theorem Mid.bring {n c A k1 : Nat} {B L : List (List Int)} (m : Mid n B c A L) (l : Least n c (en L) k1) : Mid n B c A (swapL L c k1) ∧ Least n c (en (swapL L c k1)) c ∧ ∀ k, en (swapL L c k1) k c = en L (sw c k1 k) c := by
  have hl := m.len
  have cn := m.cn
  have e : ∀ k j, en (swapL L c k1) k j = en L (sw c k1 k) j := fun k j => swapL_en (by omega) (by have := l.kn; omega)
  refine ⟨⟨m.n4, cn, by rw [swapL_len]; exact hl, swapL_row (by omega) (by have := l.kn; omega) m.row, m.good.perm (fun k hk => sw_lt cn l.kn hk) (fun k hk => sw_sw) (fun k hk => sw_fix l.ck hk) (fun k _ j _ => e k j) (by omega), m.eu.swap cn l.kn l.ck fun k _ j _ => e k j⟩, ⟨cn, Nat.le_refl _, ?_, fun k hk ck lk => ?_⟩, fun k => e k c⟩
  · rw [e c c]
    have : sw c k1 c = k1 := by unfold sw; split <;> simp_all
    rw [this]; exact l.live
  · rw [e c c]
    have : sw c k1 c = k1 := by unfold sw; split <;> simp_all
    rw [this]
    rw [e k c] at lk ⊢
    exact l.least _ (sw_lt cn l.kn hk) (sw_ge l.ck ck) lk
end K80
/-! V26 -/
namespace K80
open PySem PySem.Spec PyProof.Rows L2 L3 PySem.W
theorem movedI_len {r s : List Int} {t : Int} {m : Nat} (h : r.length = m) (k : s.length = m) : (movedI r s t).length = m := by unfold movedI; rw [List.length_map, List.length_zip]; omega
theorem movedI_at {r s : List Int} {t : Int} {j : Nat} (h : j < r.length) (k : j < s.length) : (movedI r s t).getD j 0 = r.getD j 0 + t * s.getD j 0 := by
  unfold movedI
  rw [getD_zip0 h k]
/-- rows f at the places of S -/
structure Upto (n : Nat) (L : List (List Int)) (f : Nat → List Int) (S : Nat → Prop) (L' : List (List Int)) : Prop where
  len : L'.length = n
  yes : ∀ k, k < n → S k → L'.getD k [] = f k
  no : ∀ k, k < n → ¬ S k → L'.getD k [] = L.getD k []
theorem Upto.start {n : Nat} {L : List (List Int)} {f : Nat → List Int} {S : Nat → Prop} (h : L.length = n) (hs : ∀ k, k < n → ¬ S k) : Upto n L f S L := ⟨h, fun k hk q => absurd q (hs k hk), fun _ _ _ => rfl⟩
theorem Upto.more {n i : Nat} {L L' : List (List Int)} {f : Nat → List Int} {S S' : Nat → Prop} (u : Upto n L f S L') (hi : i < n) (hs : ∀ k, S' k ↔ S k ∨ k = i) : Upto n L f S' (L'.set i (f i)) := by
  refine ⟨by rw [List.length_set]; exact u.len, fun k hk q => ?_, fun k hk q => ?_⟩
  · by_cases e : k = i
    · subst e
      rw [List.getD_eq_getElem?_getD, List.getElem?_set_self (by rw [u.len]; exact hk)]; rfl
    · rw [List.getD_eq_getElem?_getD, List.getElem?_set_ne (fun z => e z.symm), ← List.getD_eq_getElem?_getD]
      exact u.yes k hk (((hs k).mp q).resolve_right e)
  · have e : k ≠ i := fun z => q ((hs k).mpr (.inr z))
    rw [List.getD_eq_getElem?_getD, List.getElem?_set_ne (fun z => e z.symm), ← List.getD_eq_getElem?_getD]
    exact u.no k hk fun z => q ((hs k).mpr (.inl z))
theorem all_row {n m : Nat} {L : List (List Int)} (h : L.length = n) (hr : ∀ k, k < n → (L.getD k []).length = m) : ∀ r ∈ L, r.length = m := fun r hr' => by
  obtain ⟨k, hk, rfl⟩ := List.getElem_of_mem hr'
  have := hr k (by omega)
  rwa [List.getD_eq_getElem?_getD, List.getElem?_eq_getElem hk] at this
theorem rowOf {n m k : Nat} {L : List (List Int)} (h : L.length = n) (hr : ∀ r ∈ L, r.length = m) (hk : k < n) : (L.getD k []).length = m := hr _ (getD_mem0 (by omega))
/-- the pass, row by row -/
theorem Mid.pass {n c A : Nat} {B L L' : List (List Int)} (m : Mid n B c A L) (l : Least n c (en L) c) (hA : 1 ≤ A)
    (u : Upto n L (fun k => movedI (L.getD k []) (L.getD c []) (-((en L k c).fdiv (en L c c)))) (fun k => c < k) L') {b : Nat} (hb : b < n) (cb : c < b) (lb : en L b c ≠ 0) :
    Mid n B c A L' ∧ (∀ k, k < n → c < k → (en L' k c).natAbs < (en L c c).natAbs) ∧ en L' c c = en L c c := by
  have hl := m.len
  have cn := m.cn
  have e : ∀ k, k < n → ∀ j, j < 2 * n → en L' k j = en L k j - (if c < k then (en L k c).fdiv (en L c c) else 0) * en L c j := fun k hk j hj => by
    by_cases h : c < k
    · have r1 := rowOf hl m.row hk
      have r2 := rowOf hl m.row cn
      have : en L' k j = en L k j + -((en L k c).fdiv (en L c c)) * en L c j := by
        show (L'.getD k []).getD j 0 = _
        rw [u.yes k hk h, movedI_at (by omega) (by omega)]; rfl
      rw [this, if_pos h]; grind
    · have : en L' k j = en L k j := by show (L'.getD k []).getD j 0 = _; rw [u.no k hk h]; rfl
      rw [this, if_neg h]; omega
  have p : Pass n c (en L) (en L') c (fun k => if c < k then (en L k c).fdiv (en L c c) else 0) := ⟨cn, Nat.le_refl _, cn, l.live, l.least, if_neg (by omega), fun k hk => if_neg (by omega), fun k hk ck hne => if_pos (by omega), e⟩
  refine ⟨⟨m.n4, cn, u.len, all_row u.len fun k hk => ?_, m.good.add (t := fun k => if c < k then (en L k c).fdiv (en L c c) else 0) cn (Nat.le_refl _) (if_neg (by omega)) e (by omega), p.eu m.eu hA hb cn (by omega) (Nat.le_refl _) (by omega) lb l.live⟩, fun k hk ck => ?_, p.lead (by omega)⟩
  · by_cases h : c < k
    · rw [u.yes k hk h]; exact movedI_len (rowOf hl m.row hk) (rowOf hl m.row cn)
    · rw [u.no k hk h]; exact rowOf hl m.row hk
  · rw [p.rem hk (by omega) (by omega)]
    exact (fmod_bound _ _ l.live).1
theorem log_lt {x : Int} {k : Nat} (h : x.natAbs ≤ 2 ^ k) (hk : 0 < k + 1) : x.natAbs.log2 < k + 1 := by
  by_cases h0 : x.natAbs = 0
  · rw [h0]; simp
  · exact (Nat.log2_lt h0).mpr (Nat.lt_of_le_of_lt h (Nat.pow_lt_pow_right (by omega) (by omega)))
theorem four_pow (c : Nat) : 4 * (2 ^ exq c) ^ 5 = 2 ^ (5 * exq c + 2) := by
  rw [← Nat.pow_mul, Nat.pow_add, Nat.mul_comm (exq c) 5]; omega
theorem exq_le {c : Nat} (h : c ≤ 3) : exq c ≤ 2555 := by
  match c, h with
  | 0, _ => decide
  | 1, _ => decide
  | 2, _ => decide
  | 3, _ => decide
theorem exq_le2 {c : Nat} (h : c ≤ 2) : exq c ≤ 255 := by
  match c, h with
  | 0, _ => decide
  | 1, _ => decide
  | 2, _ => decide
theorem wide_of {x y : Int} {c : Nat} (hc : c ≤ 3) (h : x.natAbs ≤ 4 * (2 ^ exq c) ^ 5) (k : y.natAbs ≤ 4 * (2 ^ exq c) ^ 5) : CMulX x y := by
  rw [four_pow] at h k
  have h1 := log_lt h (by omega)
  have h2 := log_lt k (by omega)
  have := exq_le hc
  refine .inr ?_
  unfold CMulW
  omega
theorem div_of {y : Int} {c : Nat} (hc : c ≤ 2) (h0 : y ≠ 0) (k : y.natAbs ≤ 4 * (2 ^ exq c) ^ 5) : CDivX 0 y := by
  rw [four_pow] at k
  have h2 := log_lt k (by omega)
  have := exq_le2 hc
  exact ⟨h0, by omega⟩
theorem get_ent {r : List Int} {x : Int} (h : x ∈ r) : ∃ j, j < r.length ∧ r.getD j 0 = x := by
  obtain ⟨j, hj, rfl⟩ := List.getElem_of_mem h
  exact ⟨j, hj, by rw [List.getD_eq_getElem?_getD, List.getElem?_eq_getElem hj]; rfl⟩
theorem Mid.small {n c A : Nat} {B L : List (List Int)} (m : Mid n B c A L) (hA : 1 ≤ A) {k : Nat} (hk : k < n) : ∀ x ∈ L.getD k [], x.natAbs ≤ 4 * A ^ 5 := fun x hx => by
  obtain ⟨j, hj, rfl⟩ := get_ent hx
  rw [rowOf m.len m.row hk] at hj
  exact m.eu.bd hA k hk j hj
theorem map_set_tI {L : List (List Int)} {i : Nat} {r : List Int} : (L.map tI).set i (tI r) = (L.set i r).map tI := List.map_set.symm
end K80
/-! V24 -/
namespace K80
open PySem PySem.Spec PyProof.Rows L2 L3 PySem.W
/-- rows with the columns from s on, s leads taken away -/
def leftL (n : Nat) (ls os : List (List Int)) : List (List Int) := os.map fun r => (List.range (n - ls.length)).map fun p => mn ls r (ls.length + p)
structure DSt (n : Nat) (ls os : List (List Int)) : Prop where
  n0 : 0 < n
  n4 : n ≤ 4
  len : ls.length + os.length = n
  sm : ∀ r ∈ ls ++ os, ∀ i, (g0 r i).natAbs < 4
  b0 : bef ls ≠ 0
  det : detL (ls ++ os)
  uni : ∀ (φ : Nat → Int) (p : Int), (∀ r ∈ ls ++ os, p ∣ sumN n fun j => φ j * g0 r j) → ∀ j, j < n → p ∣ φ j
theorem leftL_len {n : Nat} {ls os : List (List Int)} : (leftL n ls os).length = os.length := by unfold leftL; simp
theorem sumN_tail {f : Nat → Int} {a : Nat} (h : ∀ j, a ≤ j → f j = 0) : ∀ k, sumN (a + k) f = sumN a f
  | 0 => rfl
  | k + 1 => by
    show sumN (a + k) f + f (a + k) = _
    rw [sumN_tail h k, h _ (by omega)]; omega
theorem mn_rep {n : Nat} {ls os : List (List Int)} (d : DSt n ls os) (ho : os ≠ []) : ∃ φ : Nat → Int, (∀ r, mn ls r ls.length = sumN n fun j => φ j * g0 r j) ∧ (∀ r ∈ ls, mn ls r ls.length = 0) ∧ φ ls.length = bef ls := by
  have hl := d.len
  have h4 := d.n4
  have h1 : 0 < os.length := List.length_pos_iff.mpr ho
  match ls, hl with
  | [], hl =>
    refine ⟨fun j => if j = 0 then 1 else 0, fun r => ?_, by simp, by simp [bef]⟩
    rw [sumN_one (k := 0) _ (by omega) fun i hi hne => by simp [hne]]
    simp [mn]
  | [a], hl =>
    have e : ∀ r, mn [a] r [a].length = sumN 2 fun j => (if j = 0 then - g0 a 1 else g0 a 0) * g0 r j := fun r => by simp [mn, sumN]; grind
    obtain ⟨m, rfl⟩ : ∃ m, n = 2 + m := ⟨n - 2, by simp at hl; omega⟩
    refine ⟨fun j => if j < 2 then (if j = 0 then - g0 a 1 else g0 a 0) else 0, fun r => ?_, fun r hr => ?_, by simp [bef]⟩
    · rw [e r]
      rw [sumN_tail (fun j hj => by simp [show ¬ j < 2 by omega])]
      exact sumN_congr fun j hj => by simp only [if_pos hj]
    · rw [List.mem_singleton.mp hr]; simp [mn]; grind
  | [a, b], hl =>
    have e : ∀ r, mn [a, b] r [a, b].length = sumN 3 fun j => (if j = 0 then g0 a 1 * g0 b 2 - g0 a 2 * g0 b 1 else if j = 1 then g0 a 2 * g0 b 0 - g0 a 0 * g0 b 2 else g0 a 0 * g0 b 1 - g0 a 1 * g0 b 0) * g0 r j := fun r => by simp [mn, sumN, det3]; grind
    obtain ⟨m, rfl⟩ : ∃ m, n = 3 + m := ⟨n - 3, by simp at hl; omega⟩
    refine ⟨fun j => if j < 3 then (if j = 0 then g0 a 1 * g0 b 2 - g0 a 2 * g0 b 1 else if j = 1 then g0 a 2 * g0 b 0 - g0 a 0 * g0 b 2 else g0 a 0 * g0 b 1 - g0 a 1 * g0 b 0) else 0, fun r => ?_, fun r hr => ?_, by simp [bef, mn]⟩
    · rw [e r]
      rw [sumN_tail (fun j hj => by simp [show ¬ j < 3 by omega])]
      exact sumN_congr fun j hj => by simp only [if_pos hj]
    · rcases List.mem_cons.mp hr with q | q
      · rw [q]; simp [mn, det3]; grind
      · rw [List.mem_singleton.mp q]; simp [mn, det3]; grind
  | [a, b, c], hl =>
    have hn : n = 4 := by simp at hl; omega
    subst hn
    refine ⟨fun j => if j = 0 then - det3 (g0 a 1) (g0 a 2) (g0 a 3) (g0 b 1) (g0 b 2) (g0 b 3) (g0 c 1) (g0 c 2) (g0 c 3) else if j = 1 then det3 (g0 a 0) (g0 a 2) (g0 a 3) (g0 b 0) (g0 b 2) (g0 b 3) (g0 c 0) (g0 c 2) (g0 c 3)
      else if j = 2 then - det3 (g0 a 0) (g0 a 1) (g0 a 3) (g0 b 0) (g0 b 1) (g0 b 3) (g0 c 0) (g0 c 1) (g0 c 3) else det3 (g0 a 0) (g0 a 1) (g0 a 2) (g0 b 0) (g0 b 1) (g0 b 2) (g0 c 0) (g0 c 1) (g0 c 2), fun r => ?_, fun r hr => ?_, ?_⟩
    · simp [mn, sumN, det3]; grind
    · rcases List.mem_cons.mp hr with q | q
      · rw [q]; simp [mn, det3]; grind
      · rcases List.mem_cons.mp q with q | q
        · rw [q]; simp [mn, det3]; grind
        · rw [List.mem_singleton.mp q]; simp [mn, det3]; grind
    · simp [bef, mn]
  | a :: b :: c :: d :: _, hl => simp at hl; omega
/-- some row is left with a head that is not 0 -/
theorem DSt.head {n : Nat} {ls os : List (List Int)} (d : DSt n ls os) (ho : os ≠ []) : ∃ r ∈ os, mn ls r ls.length ≠ 0 := by
  obtain ⟨φ, h1, h2, h3⟩ := mn_rep d ho
  refine Classical.byContradiction fun q => ?_
  have hz : ∀ r ∈ os, mn ls r ls.length = 0 := fun r hr => Classical.byContradiction fun z => q ⟨r, hr, z⟩
  have := d.uni φ 0 (fun r hr => by
    rw [← h1 r]
    rcases List.mem_append.mp hr with z | z
    · rw [h2 r z]; exact Int.dvd_refl 0
    · rw [hz r z]; exact Int.dvd_refl 0) ls.length (by have := d.len; have := List.length_pos_iff.mpr ho; omega)
  rw [h3] at this
  exact d.b0 (Int.zero_dvd.mp this)
theorem DSt.next {n : Nat} {ls os os' : List (List Int)} {r : List Int} (d : DSt n ls os) (hp : (r :: os').Perm os) (h : mn ls r ls.length ≠ 0) : DSt n (ls ++ [r]) os' := by
  have hl := hp.length_eq
  have hd := d.len
  have h4 := d.n4
  simp only [List.length_cons] at hl
  have hpm : (ls ++ os).Perm (ls ++ [r] ++ os') := by
    rw [List.append_assoc]
    exact List.Perm.append_left ls hp.symm
  refine ⟨d.n0, h4, by simp; omega, fun x hx => d.sm x (hpm.mem_iff.mpr hx), ?_, ?_, fun φ p hx => d.uni φ p fun x hx' => hx x (hpm.mem_iff.mp hx')⟩
  · rw [bef_snoc (by omega)]; exact h
  · have := detL_perm hp.symm ls d.det
    rwa [List.append_assoc]
theorem DSt.last {n : Nat} {ls : List (List Int)} (d : DSt n ls []) : bef ls = 1 ∨ bef ls = -1 := by
  have hl := d.len
  have h0 := d.n0
  have h4 := d.n4
  have hd := d.det
  rw [List.append_nil] at hd
  rcases List.eq_nil_or_concat ls with e | ⟨l, r, e⟩
  · subst e; simp at hl; omega
  · rw [List.concat_eq_append] at e
    subst e
    have h3 : l.length ≤ 3 := by simp at hl; omega
    rw [bef_snoc h3]
    exact detL_last h3 hd
/-! sizes -/
theorem abs_mul {a b : Int} {x y : Nat} (h : a.natAbs ≤ x) (k : b.natAbs ≤ y) : (a * b).natAbs ≤ x * y := by rw [Int.natAbs_mul]; exact Nat.mul_le_mul h k
theorem abs_det3 {a b c d e f g h i : Int} (ha : a.natAbs ≤ 3) (hb : b.natAbs ≤ 3) (hc : c.natAbs ≤ 3) (hd : d.natAbs ≤ 3) (he : e.natAbs ≤ 3) (hf : f.natAbs ≤ 3) (hg : g.natAbs ≤ 3) (hh : h.natAbs ≤ 3) (hi : i.natAbs ≤ 3) : (det3 a b c d e f g h i).natAbs ≤ 162 := by
  unfold det3
  have e1 := abs_mul he hi
  have e2 := abs_mul hf hh
  have e3 := abs_mul hd hi
  have e4 := abs_mul hf hg
  have e5 := abs_mul hd hh
  have e6 := abs_mul he hg
  have f1 : (e * i - f * h).natAbs ≤ 18 := by omega
  have f2 : (d * i - f * g).natAbs ≤ 18 := by omega
  have f3 : (d * h - e * g).natAbs ≤ 18 := by omega
  have g1 := abs_mul ha f1
  have g2 := abs_mul hb f2
  have g3 := abs_mul hc f3
  omega
theorem mn_small {ls : List (List Int)} {r : List Int} {q : Nat} (hl : ∀ x ∈ r :: ls, ∀ i, (g0 x i).natAbs < 4) : (mn ls r q).natAbs ≤ 2000 := by
  have hr := hl r List.mem_cons_self
  have hr' : ∀ i, (g0 r i).natAbs ≤ 3 := fun i => Nat.le_of_lt_succ (hr i)
  match ls with
  | [] => have := hr q; show (g0 r q).natAbs ≤ 2000; omega
  | [a] =>
    have ha : ∀ i, (g0 a i).natAbs ≤ 3 := fun i => Nat.le_of_lt_succ (hl a (by simp) i)
    have e1 := abs_mul (ha 0) (hr' q)
    have e2 := abs_mul (ha q) (hr' 0)
    show (g0 a 0 * g0 r q - g0 a q * g0 r 0).natAbs ≤ 2000
    omega
  | [a, b] =>
    have ha : ∀ i, (g0 a i).natAbs ≤ 3 := fun i => Nat.le_of_lt_succ (hl a (by simp) i)
    have hb : ∀ i, (g0 b i).natAbs ≤ 3 := fun i => Nat.le_of_lt_succ (hl b (by simp) i)
    exact Nat.le_trans (abs_det3 (ha _) (ha _) (ha _) (hb _) (hb _) (hb _) (hr' _) (hr' _) (hr' _)) (by omega)
  | a :: b :: c :: _ =>
    have ha : ∀ i, (g0 a i).natAbs ≤ 3 := fun i => Nat.le_of_lt_succ (hl a (by simp) i)
    have hb : ∀ i, (g0 b i).natAbs ≤ 3 := fun i => Nat.le_of_lt_succ (hl b (by simp) i)
    have hc : ∀ i, (g0 c i).natAbs ≤ 3 := fun i => Nat.le_of_lt_succ (hl c (by simp) i)
    have e1 := abs_mul (ha 0) (abs_det3 (hb 1) (hb 2) (hb q) (hc 1) (hc 2) (hc q) (hr' 1) (hr' 2) (hr' q))
    have e2 := abs_mul (ha 1) (abs_det3 (hb 0) (hb 2) (hb q) (hc 0) (hc 2) (hc q) (hr' 0) (hr' 2) (hr' q))
    have e3 := abs_mul (ha 2) (abs_det3 (hb 0) (hb 1) (hb q) (hc 0) (hc 1) (hc q) (hr' 0) (hr' 1) (hr' q))
    have e4 := abs_mul (ha q) (abs_det3 (hb 0) (hb 1) (hb 2) (hc 0) (hc 1) (hc 2) (hr' 0) (hr' 1) (hr' 2))
    simp only [mn]
    omega
theorem bef_small {ls : List (List Int)} (hl : ∀ x ∈ ls, ∀ i, (g0 x i).natAbs < 4) : (bef ls).natAbs ≤ 2000 := by
  match ls with
  | [] => show (1 : Int).natAbs ≤ 2000; decide
  | [a] => have := hl a (by simp) 0; show (g0 a 0).natAbs ≤ 2000; omega
  | [a, b] => exact mn_small (ls := [a]) (r := b) (q := 1) fun x hx => hl x (by simp at hx ⊢; exact hx.symm)
  | [a, b, c] => exact mn_small (ls := [a, b]) (r := c) (q := 2) fun x hx => hl x (by simp at hx ⊢; rcases hx with h | h | h <;> simp [h])
  | a :: b :: c :: d :: l => exact mn_small (ls := [a, b, c]) (r := d) (q := 3) fun x hx => hl x (by simp at hx ⊢; rcases hx with h | h | h | h <;> simp [h])
theorem enumD_map {α : Type} (f : α → D) (l : List α) : enumD (l.map f) = (l.zipIdx).map fun p => D.tup [.int (p.2 : Nat), f p.1] := by
  unfold enumD
  rw [List.zipIdx_map, List.map_map]; rfl
theorem row_self {n : Nat} {r : List Int} (h : r.length = n) : ((List.range n).map fun p => mn [] r (0 + p)) = r := by
  refine List.ext_getElem (by simp [h]) fun i h1 h2 => ?_
  simp [mn, g0, List.getD_eq_getElem?_getD, List.getElem?_eq_getElem h2]
abbrev lrow (n : Nat) (ls : List (List Int)) (r : List Int) : List Int := (List.range (n - ls.length)).map fun p => mn ls r (ls.length + p)
theorem lrow_at {n : Nat} {ls : List (List Int)} {r : List Int} {p : Nat} (h : p < n - ls.length) : atI ((lrow n ls r).map D.int) (p : Int) = some (.int (mn ls r (ls.length + p))) := by
  refine L3.atI_nat ?_
  rw [List.getElem?_map, List.getElem?_map, List.getElem?_range h]; rfl
theorem lrow_at0 {n : Nat} {ls : List (List Int)} {r : List Int} (h : 0 < n - ls.length) : atI ((lrow n ls r).map D.int) 0 = some (.int (mn ls r ls.length)) := lrow_at (p := 0) h
theorem vc_determinant {K : PySem.W.Frag} : ∀ ds μ P, sp_determinant K ds μ P → t_determinant K { nx := fun _ μ' => P .non μ', rt := P } (startD N_determinant.length ds) μ := by
  rintro ds μ P ⟨n, rows, rfl, hb, k⟩
  have hl := hb.len
  have h4 := hb.n4
  have h0 := hb.n0
  unfold t_determinant
  (refine seq_step ?_; simp! only [])
  (refine seq_step ?_; simp! only [])
  refine ⟨by simp [lim]; omega, lcD_of tI (fun r => lI r) trivial (fun r hr Ry Rn h1 h2 => ?_) ?_⟩
  · unfold tI
    simp! only []
    exact h1 _ rfl
  rw [List.nil_append]
  have ds0 : DSt n [] rows := ⟨h0, h4, by simp [hl], fun r hr i => ?_, by decide, by unfold detL; rw [List.nil_append, hl]; exact hb.det, fun φ p hx => hb.uni φ p fun kk hk => ?_⟩
  · have e0 : rows.map (fun r => lI r) = (leftL n [] rows).map lI := by
      unfold leftL
      rw [List.map_map]
      refine List.map_congr_left fun r hr => ?_
      have := row_self (hb.row r hr)
      show lI r = lI (lrow n [] r)
      show lI r = lI ((List.range n).map fun p => mn [] r (0 + p))
      rw [this]
    rw [e0]
    refine seq_step ?_
    refine ⟨fun m δ μ' => ∃ ls os x3 x4 x5 x6 x7 x8, DSt n ls os ∧ m = os.length ∧ δ = [some (.lst (rows.map tI)), some (.int (bef ls)), some (.lst ((leftL n ls os).map lI)), x3, x4, x5, x6, x7, x8] ∧ μ' = μ,
      ⟨_, [], rows, none, none, none, none, none, none, ds0, rfl, rfl, rfl⟩, ?_⟩
    rintro m δ μ1 ⟨ls, os, x3, x4, x5, x6, x7, x8, d, rfl, rfl, rfl⟩
    simp! only []
    cases os with
    | nil =>
      have : ((leftL n ls []).map lI).isEmpty = true := rfl
      rw [this]
      simp! only [Bool.not_true]
      have : (if bef ls < 0 then - bef ls else bef ls) = 1 := by have := d.last; split <;> omega
      rw [this]
      exact k
    | cons o os =>
      have : ((leftL n ls (o :: os)).map lI).isEmpty = false := rfl
      rw [this]
      simp! only [Bool.not_false]
      have hdl := d.len
      have hfew : (o :: os).length ≤ 4 := by omega
      have hpos : 0 < n - ls.length := by simp at hdl; omega
      have hxl : (o :: os).length = os.length + 1 := rfl
      have hne : (o :: os) ≠ [] := by simp
      generalize (o :: os) = xs at *
      (refine seq_step ?_; simp! only [])
      have en0 : (leftL n ls xs).map lI = xs.map fun r => lI (lrow n ls r) := by unfold leftL; rw [List.map_map]; rfl
      rw [en0, enumD_map]
      refine ⟨by simp [lim]; omega, lcD_if (fun p : List Int × Nat => D.tup [.int (p.2 : Nat), lI (lrow n ls p.1)]) (fun p => .int (p.2 : Nat)) (fun p => decide (mn ls p.1 ls.length ≠ 0)) trivial (fun p hp Ry Rn r1 r2 => ?_) ?_⟩
      · unfold lI
        simp! only [lrow_at0 hpos]
        by_cases q : mn ls p.1 ls.length = 0
        · have := r2 (by simp [q])
          simpa [q] using this
        · have := r1 _ (by simp [q]; rfl)
          simpa [q] using this
      · rw [List.nil_append]
        obtain ⟨r0, hr0, hz0⟩ := d.head hne
        cases eF : xs.zipIdx.filter (fun p => decide (mn ls p.1 ls.length ≠ 0)) with
        | nil =>
          obtain ⟨i0, hi0, e0'⟩ := List.getElem_of_mem hr0
          have := List.filter_eq_nil_iff.mp eF (r0, i0) (List.mem_zipIdx_iff_getElem?.mpr (by rw [List.getElem?_eq_getElem hi0, e0']))
          simp at this
          exact absurd this hz0
        | cons p rest =>
          have hp : p ∈ xs.zipIdx.filter (fun p => decide (mn ls p.1 ls.length ≠ 0)) := by rw [eF]; exact List.mem_cons_self
          rw [List.mem_filter] at hp
          obtain ⟨hp1, hp2⟩ := hp
          obtain ⟨r, h⟩ := p
          have hr := List.mem_zipIdx_iff_getElem?.mp hp1
          have hh : h < xs.length := (List.getElem?_eq_some_iff.mp hr).1
          have hmn : mn ls r ls.length ≠ 0 := by simpa using hp2
          have a0 : atI (D.int (h : Nat) :: List.map (fun p : List Int × Nat => D.int (p.2 : Nat)) rest) 0 = some (.int (h : Nat)) := at_0
          have aL : atI (xs.map fun r => lI (lrow n ls r)) (h : Int) = some (lI (lrow n ls r)) := L3.atI_nat (by rw [List.getElem?_map, hr]; rfl)
          rw [List.map_cons]
          (refine seq_step ?_; simp! only [List.isEmpty_cons, Bool.not_false, Bool.not_true])
          (refine seq_step ?_; simp! only [a0, aL])
          have c1 : L3.cutD (xs.map fun r => lI (lrow n ls r)) none (some (h : Int)) = (xs.take h).map fun r => lI (lrow n ls r) := by rw [L3.cut_hi, List.map_take]
          have c2 : L3.cutD (xs.map fun r => lI (lrow n ls r)) (some ((h : Int) + 1)) none = (xs.drop (h + 1)).map fun r => lI (lrow n ls r) := by
            have : ((h : Int) + 1) = ((h + 1 : Nat) : Int) := by omega
            rw [this, L3.cut_lo, List.map_drop]
          (refine seq_step ?_; simp! only [a0, c1, c2])
          refine ⟨by simp [lim]; omega, ?_⟩
          have pm : (r :: (xs.take h ++ xs.drop (h + 1))).Perm xs := by
            have e : xs = xs.take h ++ r :: xs.drop (h + 1) := by
              have := List.drop_eq_getElem_cons hh
              rw [show xs[h] = r from by rw [List.getElem?_eq_getElem hh] at hr; exact Option.some.inj hr] at this
              rw [← this, List.take_append_drop]
            exact (List.perm_middle.symm.trans (List.Perm.of_eq e.symm))
          have d' := d.next pm hmn
          have hl' := d'.len
          rw [← List.map_append]
          generalize xs.take h ++ xs.drop (h + 1) = ys at *
          have hyl : ys.length + 1 = xs.length := by have := pm.length_eq; simpa using this
          (refine seq_step ?_; simp! only [])
          refine ⟨by simp [lim]; omega, lcD_of (fun r => lI (lrow n ls r)) (fun x => lI (lrow n (ls ++ [r]) x)) (by trivial) (fun x hx Ry Rn r1 r2 => ?_) ?_⟩
          · have hs2 : ls.length ≤ 2 := by have : 0 < ys.length := List.length_pos_of_mem hx; omega
            unfold lI
            simp! only [List.length_map, List.length_range]
            have hq : n - (ls ++ [r]).length = n - ls.length - 1 := by simp; omega
            have er : rangeD 1 (((n - ls.length : Nat) : Int) - 1).toNat = (List.range (n - (ls ++ [r]).length)).map fun (p : Nat) => D.int (1 + (p : Int)) := by
              unfold rangeD
              rw [hq, show (((n - ls.length : Nat) : Int) - 1).toNat = n - ls.length - 1 by omega]
            rw [er]
            have hsr : ∀ y ∈ x :: r :: ls, ∀ i, (g0 y i).natAbs < 4 := fun y hy => by
              rcases List.mem_cons.mp hy with q | q
              · rw [q]; exact d'.sm x (List.mem_append_right _ hx)
              · rcases List.mem_cons.mp q with q | q
                · rw [q]; exact d'.sm r (by simp)
                · exact d'.sm y (by simp [q])
            have b1 : ∀ q, (mn ls r q).natAbs ≤ 2000 := fun q => mn_small fun y hy => hsr y (by rcases List.mem_cons.mp hy with z | z <;> simp [z])
            have b2 : ∀ q, (mn ls x q).natAbs ≤ 2000 := fun q => mn_small fun y hy => hsr y (by rcases List.mem_cons.mp hy with z | z <;> simp [z])
            have b3 : (bef ls).natAbs ≤ 2000 := bef_small fun y hy => hsr y (by simp [hy])
            refine ⟨⟨by decide, by decide⟩, ⟨by omega, by omega⟩, by simp [lim]; omega, lcD_of (fun p : Nat => D.int (1 + (p : Int))) (fun p => .int (mn (ls ++ [r]) x ((ls ++ [r]).length + p))) (by trivial) (fun p hp Ry' Rn' g1 g2 => ?_) ?_⟩
            · have hp' : p + 1 < n - ls.length := by simp at hp; omega
              have ap : ∀ z, atI ((lrow n ls z).map D.int) (1 + (p : Int)) = some (.int (mn ls z (ls.length + (p + 1)))) := fun z => by
                have := lrow_at (r := z) hp'
                rwa [show (((p + 1 : Nat) : Int)) = 1 + (p : Int) by omega] at this
              have sy := sylv (ls := ls) (r := r) (x := x) (q := ls.length + (p + 1)) hs2
              simp! only [lrow_at0 hpos, ap]
              refine ⟨mulL (by have := b1 ls.length; omega) (by have := b1 ls.length; omega), mulL (by have := b2 ls.length; omega) (by have := b2 ls.length; omega), divS d.b0 (by omega), ?_⟩
              rw [sy, Int.mul_fdiv_cancel_left _ d.b0]
              have := g1 _ rfl
              rw [show (ls ++ [r]).length + p = ls.length + (p + 1) by simp; omega] at this
              exact this
            · rw [List.nil_append]
              have := r1 _ rfl
              unfold lI lrow at this
              rw [List.map_map] at this
              exact this
          · rw [List.nil_append]
            unfold lI
            simp! only [lrow_at0 hpos]
            refine ⟨_, by omega, ls ++ [r], ys, d', rfl, ?_⟩
            refine ⟨(bef_snoc (by omega)).symm, ?_⟩
            unfold leftL
            rw [List.map_map]
            rfl
  · by_cases hi : i < r.length
    · have := hb.sm r (by simpa using hr) (r[i]) (List.getElem_mem hi)
      unfold g0
      rw [List.getD_eq_getElem?_getD, List.getElem?_eq_getElem hi]; exact this
    · unfold g0
      rw [List.getD_eq_getElem?_getD, List.getElem?_eq_none (by omega)]; decide
  · exact hx _ (by simpa using getD_mem0 (by omega))
end K80
/-! V21 -/
namespace K80
open PySem PySem.Spec PyProof.Rows L2 L3 PySem.W

/-- a set of tuples of ints, sorted -/
theorem scD_of {g : WG} {tt : WT} {te : WE} {vs : List Nat} {chk : Mu → Prop} {R : List (List Int) → Mu → Prop} {δ : De} {μ : Mu} (hc : chk μ) : ∀ {xs acc : List (List Int)}, (∀ x ∈ xs, x ≠ []) → (∀ x ∈ xs, LcStep g tt te vs δ μ (tI x) (some (tI x))) → acc.Nodup →
    (∀ out, out.Nodup → (∀ y, y ∈ out ↔ y ∈ acc ∨ y ∈ xs) → R out μ) → scD g tt te vs chk R δ (xs.map tI) acc μ
  | [], acc, _, _, nd, p => ⟨hc, p acc nd (by simp)⟩
  | x :: xs, acc, hne, h, nd, p => by
    refine ⟨hc, h x List.mem_cons_self _ _ (fun y hy => ?_) fun hn => by cases hn⟩
    cases hy
    refine ⟨x, rfl, hne x List.mem_cons_self, encI_depth x, scD_of hc (fun y hy => hne y (List.mem_cons_of_mem _ hy)) (fun y hy => h y (List.mem_cons_of_mem _ hy)) ?_ fun out no ho => p out no fun y => ?_⟩
    · unfold addL
      split
      · exact nd
      · rename_i q
        rw [List.nodup_append]
        refine ⟨nd, by simp, fun u hu v hv e => q ?_⟩
        rw [List.mem_singleton.mp hv] at e
        exact e ▸ hu
    · rw [ho y]
      unfold addL
      split
      · rename_i q
        simp only [List.mem_cons]
        exact ⟨fun z => z.elim .inl fun z => .inr (.inr z), fun z => z.elim .inl fun z => z.elim (fun z => .inl (z ▸ q)) .inr⟩
      · simp only [List.mem_append, List.mem_cons, List.mem_singleton, List.not_mem_nil, or_false]
        exact ⟨fun z => z.elim (fun z => z.elim .inl fun z => .inr (.inl z)) fun z => .inr (.inr z), fun z => z.elim (fun z => .inl (.inl z)) fun z => z.elim (fun z => .inl (.inr z)) .inr⟩
theorem kI_inj {a b : List Int} (h : kI a = kI b) : a = b := (List.map_inj_right fun _ _ h => Sum.inl.inj h).mp h
/-- {point: True for point in ..} -/
theorem dcD_of {g : WG} {tt : WT} {tk tv : WE} {vs : List Nat} {chk : Mu → Prop} {P : D → Mu → Prop} {δ : De} {μ : Mu} (hc : chk μ) : ∀ {xs acc : List (List Int)}, (acc ++ xs).Nodup →
    (∀ x ∈ xs, ∀ (Rk : De → Mu → Prop) (Rn : Mu → Prop), (∀ δ', (tk δ' μ fun y μ2 => tv δ' μ2 fun z μ3 => y = .tup ((kI x).map kD) ∧ z = .bl true ∧ μ3 = μ) → Rk δ' μ) → g (tI x) (wipeD δ vs) fun δ' => tt δ' μ fun b μ1 => if b = true then Rk δ' μ1 else Rn μ1) → True
  | _, _, _, _ => trivial
theorem dcD_known {δ : De} {i : Nat} {μ : Mu} {P : D → Mu → Prop} (hi : i < δ.length) : ∀ {xs acc : List (List Int)}, (acc ++ xs).Nodup → P (.dT ((acc ++ xs).map fun p => (kI p, D.bl true))) μ →
    dcD keyT (gN i) wYes (wVar i) (wC (.bl true)) [i] (fun _ => True) P δ (xs.map tI) (acc.map fun p => (kI p, D.bl true)) μ
  | [], acc, nd, p => ⟨trivial, by rw [List.append_nil] at p; exact p⟩
  | x :: xs, acc, nd, p => by
    refine ⟨trivial, ?_⟩
    have hx : x ∉ acc := fun q => by
      rw [List.nodup_append] at nd
      exact nd.2.2 x q x List.mem_cons_self rfl
    have hput : putG (acc.map fun p => (kI p, D.bl true)) (kI x) (D.bl true) = (acc ++ [x]).map fun p => (kI p, D.bl true) := by
      rw [putG_fresh fun q => hx ?_]
      · simp
      · rw [List.map_map, List.mem_map] at q
        obtain ⟨y, hy, e⟩ := q
        rw [← kI_inj e]; exact hy
    simp only [gN, wYes, wVar, wC, if_true]
    refine ⟨tI x, ?_, kI x, congrArg D.tup (kI_D x).symm, ?_⟩
    · show ((δ.set i none).set i (some (tI x)))[i]? = _
      rw [List.getElem?_set_self (by rw [List.length_set]; exact hi)]
    · rw [hput]
      exact dcD_known hi (by rw [List.append_assoc]; exact nd) (by rw [List.append_assoc]; exact p)
theorem tI_len (x : List Int) {μ : Mu} : lenD μ (tI x) = some x.length := by unfold tI; rw [lenD_tup, List.length_map]
theorem lotF_put {K : PySem.W.Frag} {n : NestT} {pts : List (List Int)} : putD "text" (.str (rowsTxt pts)) (putD "_known" (.dT (pts.map fun p => (kI p, D.bl true))) (putD "_points" (.lst (pts.map tI)) (putD "nest" (nestI K n) []))) = lotF K n pts := by
  have n0 : ¬ ("nest" : Str) = "_points" := by decide +kernel
  have n1 : ¬ ("nest" : Str) = "_known" := by decide +kernel
  have n2 : ¬ ("_points" : Str) = "_known" := by decide +kernel
  have n3 : ¬ ("nest" : Str) = "text" := by decide +kernel
  have n4 : ¬ ("_points" : Str) = "text" := by decide +kernel
  have n5 : ¬ ("_known" : Str) = "text" := by decide +kernel
  simp only [putD, lotF, if_neg n0, if_neg n1, if_neg n2, if_neg n3, if_neg n4, if_neg n5]
theorem lot2_points {K : PySem.W.Frag} {n : NestT} {pts : List (List Int)} : (putD "_points" (.lst (pts.map tI)) (putD "nest" (nestI K n) [])).lookup ("_points" : Str) = some (D.lst (pts.map tI)) := by
  have n0 : ¬ ("nest" : Str) = "_points" := by decide +kernel
  simp only [putD, if_neg n0]; rfl
theorem lot3_points {K : PySem.W.Frag} {n : NestT} {pts : List (List Int)} {z : D} : (putD "_known" z (putD "_points" (.lst (pts.map tI)) (putD "nest" (nestI K n) []))).lookup ("_points" : Str) = some (D.lst (pts.map tI)) := by
  have n0 : ¬ ("nest" : Str) = "_points" := by decide +kernel
  have n1 : ¬ ("nest" : Str) = "_known" := by decide +kernel
  have n2 : ¬ ("_points" : Str) = "_known" := by decide +kernel
  simp only [putD, if_neg n0, if_neg n1, if_neg n2]; rfl
theorem walkL_at {μ : Mu} {d : D} {xs : List D} (h : ListAt μ d xs) : walkL μ d = some xs := by
  rcases h with rfl | ⟨p, rfl, e⟩
  · rfl
  · exact walkL_own e
theorem walkD_at {μ : Mu} {d : D} {xs : List D} (h : ListAt μ d xs) : walkD μ d = some xs := by
  rcases h with rfl | ⟨p, rfl, e⟩
  · rfl
  · exact walkD_own e
theorem chkD_at {μ : Mu} {d : D} {xs : List D} (h : ListAt μ d xs) : chkD d xs μ := by
  rcases h with rfl | ⟨p, rfl, e⟩
  · trivial
  · exact e
theorem ListAt.set {μ : Mu} {d : D} {xs : List D} {a : Addr} {o : MO} (h : ListAt μ d xs) (hne : ∀ p, d = .own p → p ≠ a) : ListAt (mset μ a o) d xs := by
  rcases h with rfl | ⟨p, rfl, e⟩
  · exact .inl rfl
  · exact .inr ⟨p, rfl, by rw [mset_ne (hne p rfl)]; exact e⟩
theorem vc_Lot_init {K : PySem.W.Frag} : ∀ ds μ P, sp_Lot_init K ds μ P → t_Lot_init K { nx := fun _ μ' => P .non μ', rt := P } (startD N_Lot_init.length ds) μ := by
  rintro ds μ P ⟨a, deep, n, d, given, rfl, hd, hn, h0, h4, h63, hp, ha, k⟩
  have hne : ∀ p, d = .own p → p ≠ a := fun p e q => by
    subst q
    rcases hd with h | ⟨p, h, e2⟩
    · rw [e] at h; cases h
    · rw [e] at h; cases h; rw [ha] at e2; cases e2
  unfold t_Lot_init
  (refine seq_step ?_; simp! only [])
  refine ⟨_, walkL_at hd, ?_⟩
  refine forD_inv (fun i δ μ' => (∃ x3 x4, δ = [some (.own a), some (nestI K n), some d, x3, x4]) ∧ μ' = μ) 0 ⟨⟨none, none, rfl⟩, rfl⟩ (fun _ _ _ h => h.2 ▸ chkD_at hd) ?_ ?_
  · rintro i x δ μ1 hx ⟨⟨x3, x4, rfl⟩, rfl⟩ nx hnx
    obtain ⟨q, hq, rfl⟩ := enum_get hx
    rw [List.getElem?_map, Option.map_eq_some_iff] at hq
    obtain ⟨s, hs1, rfl⟩ := hq
    have hl := (hp s (List.mem_of_getElem? hs1)).len
    unfold nestI
    simp! only [tI_len, nest_deep]
    rw [if_neg (by simp; omega)]
    exact hnx _ _ ⟨⟨_, _, rfl⟩, rfl⟩
  · rintro δ μ1 ⟨⟨x3, x4, rfl⟩, rfl⟩
    simp! only []
    (refine seq_step ?_; simp! only [])
    refine ⟨[], ha, by decide, ?_⟩
    (refine seq_step ?_; simp! only [wSortSc])
    have hd1 := hd.set (o := .ins (aLot K) (putD "nest" (nestI K n) [])) hne
    refine ⟨_, walkD_at hd1, by rw [List.length_map]; omega, scD_of (chkD_at hd1) (fun x hx e => ?_) (fun x hx Ry Rn h1 h2 => ?_) List.nodup_nil fun out nd hm => ?_⟩
    · have := (hp x hx).len
      rw [e] at this; simp at this; omega
    · unfold tI
      simp! only []
      exact h1 _ rfl
    · intro ys pm
      rw [leI_eq]
      let pts := ys.mergeSort fun a b => TotLt.le ltL (id a) (id b)
      have hpm : pts.Perm out := (List.mergeSort_perm _ _).trans pm
      have hnd : pts.Nodup := hpm.nodup_iff.mpr nd
      have hmem : ∀ x, x ∈ pts ↔ x ∈ given := fun x => by rw [hpm.mem_iff, hm x]; simp
      have hlen : pts.length ≤ 63 := Nat.le_trans (nodup_len hnd fun x hx => (hmem x).mp hx) h63
      have hok : LotOk deep pts := ⟨fun p q => hp p ((hmem p).mp q), hlen, ((ltL_tot.sorted ys).and hnd).imp fun {a b} q => by
        cases e : ltL a b with
        | true => rfl
        | false => exact absurd (ltL_tot.tri e (by have := q.1; unfold TotLt.le at this; simpa using this)) q.2⟩
      have := k pts hok hmem
      refine ⟨putD "nest" (nestI K n) [], mset_same, by have := putD_len "nest" (nestI K n) []; simp at this; omega, ?_⟩
      rw [mset_mset]
      have l1 := putD_len "nest" (nestI K n) []
      have l2 := putD_len "_points" (D.lst (pts.map tI)) (putD "nest" (nestI K n) [])
      have l3 := putD_len "_known" (D.dT (pts.map fun p => (kI p, D.bl true))) (putD "_points" (D.lst (pts.map tI)) (putD "nest" (nestI K n) []))
      simp only [List.length_nil] at l1
      have ep : (pts.map tupI) = pts.map tI := rfl
      show wSeq _ _ _ _ (mset _ a (.ins (aLot K) (putD "_points" (.lst (pts.map tI)) (putD "nest" (nestI K n) []))))
      (refine seq_step ?_; simp! only [wDc, insD_own mset_same, lot2_points])
      refine ⟨by simp [lim]; omega, dcD_known (acc := []) (by simp) (by simpa using hnd) ?_⟩
      rw [List.nil_append]
      refine ⟨_, mset_same, by omega, ?_⟩
      rw [mset_mset]
      simp! only [insD_own mset_same, lot3_points]
      refine ⟨pts, rfl, by omega, fun r hr => ?_, ?_⟩
      · have q := hok.pt r hr
        exact ⟨by have := q.len; omega, fun x hx => by have := q.sm x hx; unfold smallI; omega⟩
      · refine ⟨_, mset_same, by omega, ?_⟩
        rw [mset_mset, lotF_put]
        exact this
end K80
/-! V28 -/
namespace K80
open PySem PySem.Spec PyProof.Rows L2 L3 PySem.W
/-- a row of the identity behind each row -/
def wideL (n : Nat) (rows : List (List Int)) : List (List Int) := (List.range n).map fun k => rows.getD k [] ++ unitR n k
theorem getD_map_range {α : Type} {n k : Nat} {f : Nat → α} {d : α} (h : k < n) : ((List.range n).map f).getD k d = f k := by
  rw [List.getD_eq_getElem?_getD, List.getElem?_map, List.getElem?_range h]; rfl
theorem unitR_at {n k i : Nat} (h : i < n) : (unitR n k).getD i 0 = dl k i := by
  unfold unitR
  rw [getD_map_range h]
  unfold dl
  by_cases e : i = k
  · rw [if_pos e, if_pos e.symm]
  · rw [if_neg e, if_neg (Ne.symm e)]
theorem getD_app_l {a b : List Int} {j : Nat} (h : j < a.length) : (a ++ b).getD j 0 = a.getD j 0 := by
  rw [List.getD_eq_getElem?_getD, List.getElem?_append_left h, ← List.getD_eq_getElem?_getD]
theorem getD_app_r {a b : List Int} {j : Nat} : (a ++ b).getD (a.length + j) 0 = b.getD j 0 := by
  rw [List.getD_eq_getElem?_getD, List.getElem?_append_right (by omega), ← List.getD_eq_getElem?_getD]
  congr 1; omega
theorem getD_small {r : List Int} {j B : Nat} (h0 : 0 < B) (h : ∀ x ∈ r, x.natAbs < B) : (r.getD j 0).natAbs < B := by
  rw [List.getD_eq_getElem?_getD]
  cases e : r[j]? with
  | none => exact h0
  | some x => exact h x (List.mem_of_getElem? e)
theorem unitR_len (n k : Nat) : (unitR n k).length = n := by unfold unitR; simp
section
variable {n : Nat} {rows : List (List Int)}
theorem wide_len : (wideL n rows).length = n := by unfold wideL; simp
theorem wide_row (b : Bas n rows) {k : Nat} (hk : k < n) : (wideL n rows).getD k [] = rows.getD k [] ++ unitR n k := by unfold wideL; exact getD_map_range hk
theorem wide_l (b : Bas n rows) {k j : Nat} (hk : k < n) (hj : j < n) : en (wideL n rows) k j = en rows k j := by
  unfold en
  rw [wide_row b hk, getD_app_l (by rw [b.rowAt hk]; exact hj)]
theorem wide_r (b : Bas n rows) {k i : Nat} (hk : k < n) (hi : i < n) : en (wideL n rows) k (n + i) = dl k i := by
  unfold en
  rw [wide_row b hk]
  have := getD_app_r (a := rows.getD k []) (b := unitR n k) (j := i)
  rw [b.rowAt hk] at this
  rw [this, unitR_at hi]
theorem wide_tab (b : Bas n rows) : Tab n rows 0 (wideL n rows) := by
  have hsm : ∀ k, k < n → ∀ j, (en rows k j).natAbs < 4 := fun k hk j => getD_small (by decide) (b.sm _ (getD_mem0 (by rw [b.len]; exact hk)))
  refine ⟨b.n4, Nat.zero_le _, wide_len, all_row wide_len fun k hk => ?_, ⟨fun k hk j hj => ?_, fun φ p h => b.uni φ p fun k hk => ?_, fun k _ j hj => absurd hj (by omega)⟩, fun k hk j hj => ?_⟩
  · rw [wide_row b hk, List.length_append, b.rowAt hk, unitR_len]; omega
  · rw [wide_l b hk hj, sumN_one (k := k) _ hk fun i hi hne => by rw [wide_r b hk hi]; unfold dl; rw [if_neg (Ne.symm hne)]; omega]
    rw [wide_r b hk hk]
    unfold dl
    rw [if_pos rfl]; omega
  · rw [sumN_congr (g := fun j => φ j * en (wideL n rows) k j) fun j hj => by rw [wide_l b hk hj]]
    exact h k hk
  · show _ ≤ 2 ^ 2
    by_cases h : j < n
    · rw [wide_l b hk h]; have := hsm k hk j; omega
    · obtain ⟨i, rfl⟩ : ∃ i, j = n + i := ⟨j - n, by omega⟩
      rw [wide_r b hk (by omega)]
      unfold dl
      split <;> decide
/-- the end of all columns -/
def tailL (n : Nat) (L : List (List Int)) : List (List Int) := L.map fun r => r.drop n
theorem tail_en {L : List (List Int)} {k i : Nat} (hk : k < L.length) : en (tailL n L) k i = en L k (n + i) := by
  unfold en tailL
  have : (L.map fun r => r.drop n).getD k [] = (L.getD k []).drop n := by
    rw [List.getD_eq_getElem?_getD, List.getElem?_map, List.getD_eq_getElem?_getD, List.getElem?_eq_getElem hk]; rfl
  rw [this, List.getD_eq_getElem?_getD, List.getElem?_drop, ← List.getD_eq_getElem?_getD]
theorem Tab.inv {L : List (List Int)} (t : Tab n rows n L) : IsInv n rows (tailL n L) := by
  have hl := t.len
  refine ⟨by unfold tailL; rw [List.length_map]; exact hl, fun r hr => ?_, fun k hk j hj => ?_⟩
  · unfold tailL at hr
    obtain ⟨q, hq, rfl⟩ := List.mem_map.mp hr
    rw [List.length_drop, t.row q hq]; omega
  · rw [← t.good.idc k hk j hj, t.good.eqn k hk j hj]
    exact sumN_congr fun i hi => by rw [tail_en (by omega)]
theorem IsInv.unique {X Y : List (List Int)} (b : Bas n rows) (hX : IsInv n rows X) (hY : IsInv n rows Y) : X = Y := by
  have e := inv_unique b.inj hX.eq hY.eq
  refine List.ext_getElem (by rw [hX.len, hY.len]) fun k h1 h2 => ?_
  have hk : k < n := by rw [← hX.len]; exact h1
  refine List.ext_getElem (by rw [hX.row _ (List.getElem_mem _), hY.row _ (List.getElem_mem _)]) fun j h3 h4 => ?_
  have := e k hk j (by rw [← hX.row _ (List.getElem_mem h1)]; exact h3)
  unfold en at this
  rw [List.getD_eq_getElem?_getD, List.getD_eq_getElem?_getD, List.getD_eq_getElem?_getD, List.getD_eq_getElem?_getD, List.getElem?_eq_getElem h1, List.getElem?_eq_getElem h2] at this
  simp only [Option.getD_some] at this
  rw [List.getElem?_eq_getElem h3, List.getElem?_eq_getElem h4] at this
  exact this
end
theorem enum_units (n : Nat) : enumD ((units n).map tI) = (List.range n).map fun k => D.tup [.int (k : Nat), tI (unitR n k)] := by
  rw [enumD_map]
  refine List.ext_getElem (by simp [units]) fun i h1 h2 => ?_
  simp [units]
theorem vc_dual_rows {K : PySem.W.Frag} : ∀ ds μ P, sp_dual_rows K ds μ P → t_dual_rows K { nx := fun _ μ' => fgt P .non μ', rt := fgt P } (startD N_dual_rows.length ds) μ := by
  rintro ds μ P ⟨n, rows, rfl, hb, k⟩
  have hl := hb.len
  have h4 := hb.n4
  unfold t_dual_rows
  (refine seq_step ?_; simp! only [List.length_map, hl])
  (refine seq_step ?_; simp! only [])
  refine ⟨n, rfl, by omega, ?_⟩
  simp! only []
  rw [enum_units]
  refine ⟨by simp [lim]; omega, lcD_of (fun k : Nat => D.tup [.int (k : Nat), tI (unitR n k)]) (fun k => tI (rows.getD k [] ++ unitR n k)) (by trivial) (fun k hk Ry Rn h1 h2 => ?_) ?_⟩
  · have hk' : k < n := by simpa using hk
    have a1 := row_at (L := rows) (k := k) (by omega)
    simp! only [a1]
    have hrl := hb.rowAt hk'
    have h0 := hb.n0
    refine ⟨?_, by rw [List.length_map, List.length_map, unitR_len]; show _ ≤ 100000; omega, ?_⟩
    · intro e
      have := congrArg List.length e
      rw [List.length_map, hrl] at this
      simp at this; omega
    · rw [← List.map_append]
      exact h1 _ rfl
  · rw [List.nil_append]
    have ew : ((List.range n).map fun k => tI (rows.getD k [] ++ unitR n k)) = (wideL n rows).map tI := by unfold wideL; rw [List.map_map]; rfl
    rw [ew]
    refine ⟨_, rfl, fun p hp => ?_⟩
    (refine seq_step ?_; simp! only [])
    refine ⟨⟨by omega, by omega⟩, ?_⟩
    rw [Int.toNat_natCast, rangeD_0]
    refine forD_inv (fun i δ μ' => i ≤ n ∧ ∃ x5 L, δ = [some (.lst (rows.map tI)), some (.int n), some (.own p), none, none, x5, none] ∧ μ' = mset μ p (.lst (L.map tI)) ∧ Tab n rows i L) 0 ⟨Nat.zero_le _, none, wideL n rows, rfl, rfl, wide_tab hb⟩ (fun _ _ _ _ => trivial) ?_ ?_
    · rintro i x δ μ1 hx ⟨_, x5, L, rfl, rfl, T⟩ nx hnx
      rw [Nat.zero_add] at T hnx
      rw [List.getElem?_map, Option.map_eq_some_iff] at hx
      obtain ⟨i', hi', rfl⟩ := hx
      have hi : i < n ∧ i' = i := by
        rw [List.getElem?_eq_some_iff] at hi'
        obtain ⟨h1, h2⟩ := hi'
        rw [List.getElem_range] at h2
        exact ⟨by simpa using h1, h2.symm⟩
      obtain ⟨hi, rfl⟩ := hi
      simp! only []
      refine ⟨p, n, i', rows, L, rfl, mset_same, hi, T, fun L' T' => ?_⟩
      rw [mset_mset]
      exact hnx _ _ ⟨hi, _, L', rfl, rfl, T'⟩
    · rintro δ μ1 ⟨_, x5, L, rfl, rfl, T⟩
      have hlen : 0 + ((List.range n).map fun (i : Nat) => D.int (i : Int)).length = n := by simp
      rw [hlen] at T
      have hm1 : mset μ p (.lst (L.map tI)) p = some (.lst (L.map tI)) := mset_same
      have hT := T.inv
      have hTl := T.len
      simp! only []
      refine ⟨⟨by omega, by omega⟩, ?_⟩
      rw [Int.toNat_natCast, rangeD_0]
      refine ⟨by simp [lim]; omega, lcD_of _ (fun a => tI (L.map fun r => r.getD (n + a) 0)) (by trivial) (fun a ha Ry Rn h1 h2 => ?_) ?_⟩
      · have ha' : a < n := by simpa using ha
        simp! only [walkD_own hm1]
        refine ⟨by simp [lim]; omega, lcD_of tI (fun r => .int (r.getD (n + a) 0)) hm1 (fun r hr Ry' Rn' g1 g2 => ?_) ?_⟩
        · have hrl := T.row r hr
          have b1 : itemD (mset μ p (.lst (L.map tI))) (tI r) ((n : Int) + a) = some (.int (r.getD (n + a) 0)) := by
            have := ent_at (r := r) (j := n + a) (by omega)
            rw [Int.natCast_add] at this
            exact this
          simp! only [b1]
          exact g1 _ rfl
        · rw [List.nil_append]
          refine ⟨_, rfl, ?_⟩
          have := h1 _ rfl
          unfold tI at this
          rw [List.map_map] at this
          exact this
      · rw [List.nil_append]
        refine ⟨mdel (mset μ p (.lst (L.map tI))) p, Forget.del, ?_⟩
        rw [mdel_mset hp]
        have := k _ hT
        have e : (dualsOf (tailL n L)).map tI = (List.range n).map fun a => tI (L.map fun r => r.getD (n + a) 0) := by
          unfold dualsOf
          rw [hT.len, List.map_map]
          refine List.map_congr_left fun a ha => ?_
          show tI ((tailL n L).map fun r => r.getD a 0) = _
          unfold tailL
          rw [List.map_map]
          congr 1
          refine List.map_congr_left fun r hr => ?_
          show (r.drop n).getD a 0 = _
          rw [List.getD_eq_getElem?_getD, List.getElem?_drop, ← List.getD_eq_getElem?_getD]
        rw [e] at this
        exact this
def bk2 (K : PySem.W.Frag) (n : NestT) (z : Int) : List (Str × D) := [("nest", nestI K n), ("size", .int z)]
theorem block_put {K : PySem.W.Frag} {n : NestT} {rows inv : List (List Int)} {sides : List Int} {s1 : Int} {z : Int} (hz : z = sides.foldl (· * ·) 1) {f : List (Str × D)} (hf : f = bk2 K n z) :
    putD "_duals" (.lst ((dualsOf inv).map tI)) (putD "_sides" (.lst (sides.map .int)) (putD "_basis" (.lst (rows.map tI)) f)) = blockF K n rows sides inv := by
  subst hf hz
  have n0 : ¬ ("nest" : Str) = "_basis" := by decide +kernel
  have n1 : ¬ ("size" : Str) = "_basis" := by decide +kernel
  have n2 : ¬ ("nest" : Str) = "_sides" := by decide +kernel
  have n3 : ¬ ("size" : Str) = "_sides" := by decide +kernel
  have n4 : ¬ ("_basis" : Str) = "_sides" := by decide +kernel
  have n5 : ¬ ("nest" : Str) = "_duals" := by decide +kernel
  have n6 : ¬ ("size" : Str) = "_duals" := by decide +kernel
  have n7 : ¬ ("_basis" : Str) = "_duals" := by decide +kernel
  have n8 : ¬ ("_sides" : Str) = "_duals" := by decide +kernel
  simp only [putD, bk2, blockF, if_neg n0, if_neg n1, if_neg n2, if_neg n3, if_neg n4, if_neg n5, if_neg n6, if_neg n7, if_neg n8]
theorem ns_ne : ¬ ("nest" : Str) = "size" := by decide +kernel
theorem vc_Block_init {K : PySem.W.Frag} : ∀ ds μ P, sp_Block_init K ds μ P → t_Block_init K { nx := fun _ μ' => P .non μ', rt := P } (startD N_Block_init.length ds) μ := by
  rintro ds μ P ⟨a, deep, n, rows, sides, rfl, hn, hb, hs, ha, k⟩
  have hl := hb.len
  have h4 := hb.n4
  have hsl := hs.len
  unfold t_Block_init
  (refine seq_step ?_; simp! only [])
  refine ⟨by simp [lim]; omega, lcD_of tI tI (by trivial) (fun r hr Ry Rn h1 h2 => ?_) ?_⟩
  · unfold tI
    simp! only []
    exact h1 _ rfl
  rw [List.nil_append]
  (refine seq_step ?_; simp! only [])
  refine forD_inv (fun i δ μ' => (∃ x5 x6, δ = [some (.own a), some (nestI K n), some (.lst (rows.map tI)), some (.lst (sides.map .int)), some (.lst (rows.map tI)), x5, x6, none]) ∧ μ' = μ) 0 ⟨⟨none, none, rfl⟩, rfl⟩ (fun _ _ _ _ => trivial) ?_ ?_
  · rintro i x δ μ1 hx ⟨⟨x5, x6, rfl⟩, rfl⟩ nx hnx
    obtain ⟨q, hq, rfl⟩ := enum_get hx
    rw [List.getElem?_map, Option.map_eq_some_iff] at hq
    obtain ⟨s, hs1, rfl⟩ := hq
    have hl := hb.row s (List.mem_of_getElem? hs1)
    unfold nestI
    simp! only [tI_len, nest_deep]
    rw [if_neg (by simp; omega)]
    exact hnx _ _ ⟨⟨_, _, rfl⟩, rfl⟩
  · rintro δ μ1 ⟨⟨x5, x6, rfl⟩, rfl⟩
    have e0 : nestI K n = .ins (aNest K) (nestF n) := rfl
    simp! only []
    (refine seq_step ?_; simp! only [e0, nest_deep])
    refine ⟨deep, rows, by rw [hn], hb, ?_⟩
    simp! only [Bool.not_true]
    (refine seq_step ?_; simp! only [nest_deep])
    refine ⟨deep, sides, by rw [hn], h4, hs, ?_⟩
    simp! only []
    (refine seq_step ?_; simp! only [])
    refine ⟨[], ha, by decide, ?_⟩
    (refine seq_step ?_; simp! only [])
    refine ⟨by have := putD_len "nest" (D.ins (aNest K) (nestF n)) []; simp at this; omega, ?_⟩
    have en1 : putD "size" (D.int 1) (putD "nest" (D.ins (aNest K) (nestF n)) []) = bk2 K n 1 := by
      simp only [putD, if_neg ns_ne]; rfl
    rw [en1]
    (refine seq_step ?_; simp! only [])
    refine forD_inv (fun i δ μ' => i ≤ sides.length ∧ ∃ x7 z, δ = [some (.own a), some (nestI K n), some (.lst (rows.map tI)), some (.lst (sides.map .int)), some (.lst (rows.map tI)), x5, x6, x7] ∧ z = (sides.take i).foldl (· * ·) 1 ∧ 1 ≤ z ∧ z ≤ (20 : Int) ^ i ∧ μ' = mset μ1 a (.ins (aBlock K) (bk2 K n z))) 0 ⟨Nat.zero_le _, none, 1, rfl, by simp, by decide, by decide, rfl⟩ (fun _ _ _ _ => trivial) ?_ ?_
    · rintro i x δ μ2 hx ⟨hi0, x7, z, rfl, rfl, z1, z2, rfl⟩ nx hnx
      rw [Nat.zero_add] at hnx hi0
      rw [List.getElem?_map, Option.map_eq_some_iff] at hx
      obtain ⟨s, hs1, rfl⟩ := hx
      have hi : i < sides.length := (List.getElem?_eq_some_iff.mp hs1).1
      rw [Nat.zero_add] at *
      have s1 := hs.lo s (List.mem_of_getElem? hs1)
      have s2 := hs.hi s (List.mem_of_getElem? hs1)
      generalize hz : (sides.take i).foldl (· * ·) 1 = z at *
      have lk : (bk2 K n z).lookup ("size" : Str) = some (.int z) := rfl
      simp! only [insD_own mset_same, lk]
      have hsmall : s < 2 ^ 62 := by omega
      refine ⟨mulR (by omega) hsmall, by show 2 ≤ 100; decide, ?_⟩
      have en2 : putD "size" (D.int (z * s)) (bk2 K n z) = bk2 K n (z * s) := by
        simp only [bk2, putD, if_neg ns_ne, if_true]
      rw [en2]
      refine hnx _ _ ⟨hi, _, _, rfl, ?_, ?_, ?_, rfl⟩
      · rw [List.take_succ, hs1, List.foldl_append, hz]; rfl
      · have := Int.mul_le_mul z1 s1 (by omega) (by omega)
        omega
      · rw [Int.pow_succ]
        exact Int.mul_le_mul z2 s2 (by omega) (by omega)
    · rintro δ μ2 ⟨_, x7, z, rfl, hz, z1, z2, rfl⟩
      have hlen : 0 + (sides.map D.int).length = sides.length := by simp
      rw [hlen, List.take_length] at hz
      simp! only []
      have l3 := putD_len "_basis" (D.lst (rows.map tI)) (bk2 K n z)
      have l4 := putD_len "_sides" (D.lst (sides.map .int)) (putD "_basis" (D.lst (rows.map tI)) (bk2 K n z))
      simp only [show (bk2 K n z).length = 2 from rfl] at l3
      (refine seq_step ?_; simp! only [])
      refine ⟨by show 2 ≤ 100; decide, ?_⟩
      (refine seq_step ?_; simp! only [])
      refine ⟨by omega, ?_⟩
      refine ⟨deep, rows, rfl, hb, fun inv hinv => ?_⟩
      simp! only []
      refine ⟨by omega, ?_⟩
      rw [block_put (s1 := 0) hz rfl]
      exact k inv hinv
end K80
/-! V29 -/
namespace K80
open PySem PySem.Spec PyProof.Rows L2 L3 PySem.W
theorem units_bas {n : Nat} (h0 : 0 < n) (h4 : n ≤ 4) : Bas n (units n) := by
  have e : ∀ k, k < n → ∀ j, j < n → en (units n) k j = dl k j := fun k hk j hj => by
    unfold en units
    rw [getD_map_range hk, unitR_at hj]
  have mem : ∀ r ∈ units n, ∃ k, r = unitR n k := fun r hr => by
    unfold units at hr
    obtain ⟨k, _, rfl⟩ := List.mem_map.mp hr
    exact ⟨k, rfl⟩
  refine ⟨h0, h4, by unfold units; simp, fun r hr => ?_, fun r hr x hx => ?_, fun φ p h => uni_dl n φ p fun k hk => ?_, fun x h => inj_dl n x fun j hj => ?_, ?_⟩
  · obtain ⟨k, rfl⟩ := mem r hr; exact unitR_len n k
  · obtain ⟨k, rfl⟩ := mem r hr
    unfold unitR at hx
    obtain ⟨i, _, rfl⟩ := List.mem_map.mp hx
    split <;> decide
  · rw [sumN_congr (g := fun j => φ j * en (units n) k j) fun j hj => by rw [e k hk j hj]]
    exact h k hk
  · rw [sumN_congr (g := fun i => x i * en (units n) i j) fun i hi => by rw [e i hi j hj]]
    exact h j hj
  · left
    match n, h0, h4 with
    | 1, _, _ => decide
    | 2, _, _ => decide
    | 3, _, _ => decide
    | 4, _, _ => decide
theorem rowl_at {L : List (List Int)} {k : Nat} (h : k < L.length) : atI (L.map lI) (k : Int) = some (lI (L.getD k [])) := by
  refine L3.atI_nat ?_
  rw [List.getElem?_map, List.getD_eq_getElem?_getD, List.getElem?_eq_getElem h]; rfl
theorem map_set_lI {L : List (List Int)} {i : Nat} {r : List Int} : (L.map lI).set i (lI r) = (L.set i r).map lI := List.map_set.symm
theorem vc__law_basis {K : PySem.W.Frag} : ∀ ds μ P, sp__law_basis K ds μ P → t__law_basis K { nx := fun _ μ' => fgt P .non μ', rt := fgt P } (startD N__law_basis.length ds) μ := by
  rintro ds μ P ⟨a, deep, steps, rfl, hb, h0, h4, hst, k⟩
  unfold t__law_basis
  (refine seq_step ?_; simp! only [])
  refine ⟨deep, rfl, by omega, ?_⟩
  simp! only []
  refine ⟨by simp [lim, units]; omega, lcD_of tI lI (by trivial) (fun r hr Ry Rn h1 h2 => ?_) ?_⟩
  · unfold tI
    simp! only []
    exact h1 _ rfl
  rw [List.nil_append]
  refine ⟨_, rfl, fun p hp => ?_⟩
  have hpa : p ≠ a := hb.ne hp
  (refine seq_step ?_; simp! only [])
  refine ⟨⟨by omega, by omega⟩, ?_⟩
  rw [Int.toNat_natCast, rangeD_0]
  refine forD_inv (fun i δ μ' => ∃ rows x4 x5 x6 x7 x8 x9 x10 x11, δ = [some (.own a), some (.int deep), some (.int steps), some (.own p), x4, x5, x6, x7, x8, x9, x10, x11] ∧ Bas deep rows ∧ μ' p = some (.lst (rows.map lI)) ∧ (∀ b, b ≠ a → b ≠ p → μ' b = μ b) ∧ BagAt μ' a) 0
    ⟨units deep, none, none, none, none, none, none, none, none, rfl, units_bas h0 h4, mset_same, fun b _ h => mset_ne h, hb.of (mset_ne hpa.symm)⟩ (fun _ _ _ _ => trivial) ?_ ?_
  · rintro i x δ μ1 hx ⟨rows, x4, x5, x6, x7, x8, x9, x10, x11, rfl, B, m1, f1, b1⟩ nx hnx
    have hl := B.len
    simp! only []
    refine seq_step ?_
    simp! only []
    refine draw_at b1 (by omega) (by omega) fun r1 μ2 c2 b2 r1a r1b => ?_
    refine draw_at b2 (by omega) (by omega) fun r2 μ3 c3 b3 r2a r2b => ?_
    refine ⟨by decide, of_ints (xs := [1, 0, -1, 2, 1]) b3 (by decide) (by decide) fun c μ4 hc c4 b4 => ?_⟩
    have hc' : -1 ≤ c ∧ c ≤ 2 := by simp at hc; omega
    have m4 : μ4 p = some (.lst (rows.map lI)) := by rw [c4 p hpa, c3 p hpa, c2 p hpa]; exact m1
    have f4 : ∀ b, b ≠ a → b ≠ p → μ4 b = μ b := fun b h1 h2 => by rw [c4 b h1, c3 b h1, c2 b h1]; exact f1 b h1 h2
    obtain ⟨r1, rfl⟩ := Int.eq_ofNat_of_zero_le r1a
    obtain ⟨r2, rfl⟩ := Int.eq_ofNat_of_zero_le r2a
    have hr1 : r1 < deep := by omega
    have hr2 : r2 < deep := by omega
    have a1 := rowl_at (L := rows) (k := r1) (by omega)
    have a2 := rowl_at (L := rows) (k := r2) (by omega)
    have rl1 := B.rowAt hr1
    have rl2 := B.rowAt hr2
    have done : ∀ rows' x9 x10 x11, Bas deep rows' → nx [some (.own a), some (.int deep), some (.int steps), some (.own p), x4, some x, some (.int r1), some (.int r2), some (.int c), x9, x10, x11] (mset μ4 p (.lst (rows'.map lI))) := fun rows' x9 x10 x11 B' =>
      hnx _ _ ⟨rows', _, _, _, _, _, _, _, _, rfl, B', mset_same, fun b h1 h2 => (mset_ne h2).trans (f4 b h1 h2), b4.of (mset_ne hpa.symm)⟩
    have hix1 : ixN rows.length (r1 : Int) = some r1 := ixN_nat (by omega)
    have hix2 : ixN rows.length (r2 : Int) = some r2 := ixN_nat (by omega)
    refine ⟨by decide, ?_⟩
    simp! only [itemD_own m4, a1, a2]
    by_cases e12 : (r1 : Int) = r2
    · rw [if_pos (by simpa using e12)]
      refine ⟨(rows.getD r1 []).map D.int, rfl, by rw [List.length_map, rl1]; show _ ≤ 100000; omega, lcD_of D.int (fun x => .int (0 - x)) (by trivial) (fun x hx Ry Rn h1 h2 => ?_) ?_⟩
      · simp! only []
        exact h1 _ rfl
      · rw [List.nil_append]
        have ed : (rows.getD r1 []).map (fun x => D.int (0 - x)) = ((rows.getD r1 []).map fun x => 0 - x).map D.int := by rw [List.map_map]; rfl
        rw [ed]
        refine ⟨_, m4, r1, by rw [List.length_map]; exact hix1, ?_⟩
        show nx _ (mset μ4 p (.lst ((rows.map lI).set r1 (lI _))))
        rw [map_set_lI]
        exact done _ _ _ _ (B.neg hr1)
    · rw [if_neg (by simpa using e12)]
      by_cases c0 : c = 0
      · rw [if_pos (by simpa using c0)]
        refine ⟨by decide, ?_⟩
        simp! only [gT2, gs2Cons, gSub2, gs2Nil]
        refine ⟨_, m4, r1, by rw [List.length_map]; exact hix1, r2, by rw [List.length_set, List.length_map]; exact hix2, ?_⟩
        rw [map_set_lI, map_set_lI]
        exact done _ _ _ _ (B.swap hr1 hr2 (by omega))
      · rw [if_neg (by simpa using c0)]
        refine seq_step ?_
        simp! only [itemD_own m4, a1, a2]
        refine ⟨(rows.getD r1 []).map D.int, rfl, (rows.getD r2 []).map D.int, rfl, ?_⟩
        rw [zipD]
        refine ⟨by rw [List.length_map, List.length_zip]; show _ ≤ 100000; omega, lcD_of _ (fun p => .int (p.1 + c * p.2)) (by exact ⟨trivial, trivial⟩) (fun q hq Ry Rn h1 h2 => ?_) ?_⟩
        · simp! only []
          exact ⟨mulL (by omega) (by omega), h1 _ rfl⟩
        · rw [List.nil_append]
          let row := ((rows.getD r1 []).zip (rows.getD r2 [])).map fun p => p.1 + c * p.2
          have ed : ((rows.getD r1 []).zip (rows.getD r2 [])).map (fun p => D.int (p.1 + c * p.2)) = row.map D.int := by show _ = (List.map _ _).map _; rw [List.map_map]; rfl
          have hrow : row.length = deep := by show (List.map _ _).length = _; rw [List.length_map, List.length_zip]; omega
          rw [ed]
          simp! only []
          refine ⟨by rw [List.length_map, hrow]; show _ ≤ 100000; omega, lcD_of D.int (fun x => .int (if x < 0 then -x else x)) (by trivial) (fun q hq Ry Rn h1 h2 => ?_) ?_⟩
          · simp! only []
            exact h1 _ rfl
          · rw [List.nil_append]
            have ee : row.map (fun x => D.int (if x < 0 then -x else x)) = (row.map fun x => if x < 0 then -x else x).map D.int := (List.map_map (g := D.int) (f := fun x : Int => if x < 0 then -x else x) (l := row)).symm
            rw [ee]
            refine ⟨row.map fun x => if x < 0 then -x else x, rfl, by rw [List.length_map]; omega, fun m hm hle => ?_⟩
            by_cases q : m < 4
            · rw [if_pos (by simpa using q)]
              refine ⟨_, m4, r1, by rw [List.length_map]; exact hix1, ?_⟩
              show nx _ (mset μ4 p (.lst ((rows.map lI).set r1 (lI row))))
              rw [map_set_lI]
              refine done _ _ _ _ (B.add hr1 hr2 (by omega) fun y hy => ?_)
              have := hle _ (List.mem_map_of_mem (f := fun x => if x < 0 then -x else x) hy)
              split at this <;> omega
            · rw [if_neg (by simpa using q)]
              refine hnx _ _ ⟨rows, _, _, _, _, _, _, _, _, rfl, B, m4, f4, b4⟩
  · rintro δ μ1 ⟨rows, x4, x5, x6, x7, x8, x9, x10, x11, rfl, B, m1, f1, b1⟩
    simp! only [walkD_own m1]
    refine ⟨by simp [lim, B.len]; omega, lcD_of lI tI m1 (fun r hr Ry Rn h1 h2 => ?_) ?_⟩
    · unfold lI
      simp! only []
      exact h1 _ rfl
    · rw [List.nil_append]
      refine ⟨mdel μ1 p, Forget.del, k rows _ B (fun b hb' => ?_) (b1.of (mdel_ne hpa.symm))⟩
      by_cases h : b = p
      · rw [h, mdel_same, hp]
      · rw [mdel_ne h]; exact f1 b hb' h
end K80
/-! V30 -/
namespace K80
open PySem PySem.Spec PyProof.Rows L2 L3 PySem.W
def subI (r s : List Int) (t : Int) : List Int := (r.zip s).map fun p => p.1 - t * p.2
theorem subI_len {r s : List Int} {t : Int} {m : Nat} (h : r.length = m) (k : s.length = m) : (subI r s t).length = m := by unfold subI; rw [List.length_map, List.length_zip]; omega
theorem subI_at {r s : List Int} {t : Int} {j : Nat} (h : j < r.length) (k : j < s.length) : (subI r s t).getD j 0 = r.getD j 0 - t * s.getD j 0 := by
  unfold subI
  rw [getD_zip0 h k]
/-- the rows that are live in column c -/
def liveN (n c : Nat) (M : Fn2) : List Nat := ((List.range (n - c)).filter fun i => decide (M (c + i) c ≠ 0)).map fun i => c + i
theorem mem_liveN {n c : Nat} {M : Fn2} {k : Nat} : k ∈ liveN n c M ↔ k < n ∧ c ≤ k ∧ M k c ≠ 0 := by
  unfold liveN
  rw [List.mem_map]
  constructor
  · rintro ⟨i, hi, rfl⟩
    rw [List.mem_filter, List.mem_range] at hi
    exact ⟨by omega, by omega, by simpa using hi.2⟩
  · rintro ⟨h1, h2, h3⟩
    refine ⟨k - c, ?_, by omega⟩
    rw [List.mem_filter, List.mem_range, show c + (k - c) = k by omega]
    exact ⟨by omega, by simpa using h3⟩
theorem liveN_nd {n c : Nat} {M : Fn2} : (liveN n c M).Nodup := by
  unfold liveN
  exact List.Pairwise.map _ (fun a b h e => h (by omega)) (List.Pairwise.filter _ List.nodup_range)
theorem liveN_len {n c : Nat} {M : Fn2} : (liveN n c M).length ≤ n := by
  unfold liveN
  rw [List.length_map]
  exact Nat.le_trans (List.length_filter_le _ _) (by simp)
def liveD (n c : Nat) (M : Fn2) : D := .lst ((liveN n c M).map fun k => D.int (k : Nat))
/-- the comprehension that tells the live rows -/
theorem live_lc {n c p : Nat} {B L : List (List Int)} {A : Nat} (m : Mid n B c A L) {μ : Mu} (hm : μ p = some (.lst (L.map lI))) {P : D → Mu → Prop} {δ : De} {d0 d3 : Option D} (hδ : δ.length = 14) (h1 : δ[1]? = some (some (.int n))) (h2 : δ[2]? = some (some (.own p))) (h5 : δ[5]? = some (some (.int c)))
    (q : P (liveD n c (en L)) μ) : wLc (wRng2 (wCons (wVar 5) (wCons (wVar 1) wNil))) (gN 4) (wTest (wOp gNe (wOp gIx (wOp gIx (wVar 2) (wVar 4)) (wVar 5)) (wC (.int 0)))) (wVar 4) [4] δ μ P := by
  have h4 := m.n4
  have hl := m.len
  have cn := m.cn
  match δ, hδ with
  | [d0, d1, d2, d3, d4, d5, d6, d7, d8, d9, d10, d11, d12, d13], _ =>
    simp only [List.getElem?_cons_succ, List.getElem?_cons_zero, Option.some.injEq] at h1 h2 h5
    subst h1 h2 h5
    simp! only []
    refine ⟨⟨by omega, by omega⟩, ⟨by omega, by omega⟩, ?_⟩
    rw [rangeD_2]
    refine ⟨by simp [lim]; omega, lcD_if _ (fun i => .int ((c + i : Nat) : Int)) (fun i => decide (en L (c + i) c ≠ 0)) trivial (fun i hi Ry Rn r1 r2 => ?_) ?_⟩
    · have hi' : c + i < n := by simp at hi; omega
      have hA := rowl_at (L := L) (k := c + i) (by omega)
      have hrl := rowOf hl m.row hi'
      have hB : itemD μ (lI (L.getD (c + i) [])) (c : Int) = some (.int (en L (c + i) c)) := ent_at (by omega)
      simp! only [itemD_own hm, hA, hB]
      by_cases z : en L (c + i) c = 0
      · rw [if_neg (by simpa using z)]; exact r2 (if_neg (by simpa using z))
      · rw [if_pos (by simpa using z)]; exact r1 _ (if_pos (decide_eq_true z))
    · rw [List.nil_append]
      unfold liveD liveN at q
      rw [List.map_map] at q
      exact q
theorem Mid.pass2 {n c A k1 : Nat} {B L L' : List (List Int)} (m : Mid n B c A L) (l : Least n c (en L) k1) (hA : 1 ≤ A)
    (u : Upto n L (fun k => subI (L.getD k []) (L.getD k1 []) ((en L k c).fdiv (en L k1 c))) (fun k => k ∈ liveN n c (en L) ∧ k ≠ k1) L') {b : Nat} (hb : b < n) (cb : c ≤ b) (hne : b ≠ k1) (lb : en L b c ≠ 0) :
    Mid n B c A L' ∧ colS c (en L') n < colS c (en L) n := by
  have hl := m.len
  have cn := m.cn
  let t : Nat → Int := fun k => if c ≤ k ∧ k ≠ k1 then (en L k c).fdiv (en L k1 c) else 0
  have e : ∀ k, k < n → ∀ j, j < 2 * n → en L' k j = en L k j - t k * en L k1 j := fun k hk j hj => by
    by_cases h : k ∈ liveN n c (en L) ∧ k ≠ k1
    · have r1 := rowOf hl m.row hk
      have r2 := rowOf hl m.row l.kn
      have : en L' k j = en L k j - ((en L k c).fdiv (en L k1 c)) * en L k1 j := by
        show (L'.getD k []).getD j 0 = _
        rw [u.yes k hk h, subI_at (by omega) (by omega)]; rfl
      rw [this]
      show _ = _ - (if c ≤ k ∧ k ≠ k1 then _ else _) * _
      rw [if_pos ⟨(mem_liveN.mp h.1).2.1, h.2⟩]
    · have e1 : en L' k j = en L k j := by show (L'.getD k []).getD j 0 = _; rw [u.no k hk h]; rfl
      rw [e1]
      show _ = _ - (if c ≤ k ∧ k ≠ k1 then _ else _) * _
      by_cases h2 : c ≤ k ∧ k ≠ k1
      · have : en L k c = 0 := Classical.byContradiction fun z => h ⟨mem_liveN.mpr ⟨hk, h2.1, z⟩, h2.2⟩
        rw [if_pos h2, this, Int.zero_fdiv]; omega
      · rw [if_neg h2]; omega
  have p : Pass n c (en L) (en L') k1 t := ⟨l.kn, l.ck, cn, l.live, l.least, if_neg fun z => z.2 rfl, fun k hk => if_neg (by omega), fun k hk ck hne => if_pos ⟨ck, hne⟩, e⟩
  refine ⟨⟨m.n4, cn, u.len, all_row u.len fun k hk => ?_, m.good.add (t := t) l.kn l.ck (if_neg fun z => z.2 rfl) e (by omega), p.eu m.eu hA hb l.kn cb l.ck hne lb l.live⟩, p.falls hb cb hne lb⟩
  by_cases h : k ∈ liveN n c (en L) ∧ k ≠ k1
  · rw [u.yes k hk h]; exact subI_len (rowOf hl m.row hk) (rowOf hl m.row l.kn)
  · rw [u.no k hk h]; exact rowOf hl m.row hk
def Ext (μ μ' : Mu) : Prop := ∀ b o, μ b = some o → μ' b = some o
theorem Ext.refl (μ : Mu) : Ext μ μ := fun _ _ h => h
theorem Ext.set {μ μ' : Mu} {p : Addr} {o : MO} (e : Ext μ μ') (h : μ p = none) : Ext μ (mset μ' p o) := fun b u q => by
  rw [mset_ne fun z => by rw [z, h] at q; cases q]
  exact e b u q
theorem Ext.fgt {μ μ' : Mu} (e : Ext μ μ') : Forget μ' μ := fun b => by
  cases h : μ b with
  | none => exact .inr rfl
  | some o => exact .inl (e b o h).symm
theorem Ext.none {μ μ' : Mu} (e : Ext μ μ') {p : Addr} (h : μ' p = none) : μ p = none := by
  cases q : μ p with
  | none => rfl
  | some o => rw [e p o q] at h; cases h
structure UndW (n : Nat) (B : List (List Int)) (c : Nat) (p : Addr) (μ : Mu) (m : Nat) (δ : De) (μ' : Mu) : Prop where
  ex : ∃ L x3 x4 x7 x8 x9 x10 x11 x12 x13, Mid n B c (2 ^ exq c) L ∧ δ = [some (.lst (B.map tI)), some (.int n), some (.own p), x3, x4, some (.int c), some (liveD n c (en L)), x7, x8, x9, x10, x11, x12, x13] ∧ μ' p = some (.lst (L.map lI)) ∧ Ext μ μ' ∧ m = colS c (en L) n
end K80
/-! V33 -/
namespace K80
open PySem PySem.Spec PyProof.Rows L2 L3 PySem.W
abbrev pyT (l : List Int) : PyData := .tuple (l.map .int)
theorem toPyL_ints (l : List Int) : toPyL (l.map D.int) = some (l.map PyData.int) := by
  induction l with
  | nil => rfl
  | cons x l ih => simp only [List.map_cons, toPyL, toPy, ih]
theorem toPy_tI (l : List Int) : toPy (tI l) = some (pyT l) := by
  unfold tI
  simp only [toPy, toPyL_ints, Option.map_some]
theorem pyOf_tI (l : List Int) : pyOf (tI l) = pyT l := by unfold pyOf; rw [toPy_tI]; rfl
theorem eqv_T : ∀ a b : List Int, PyData.eqv (pyT a) (pyT b) = decide (a = b) := fun a b => by
  have h : ∀ a b : List Int, PyData.eqvAll (a.map .int) (b.map .int) = decide (a = b) := fun a => by
    induction a with
    | nil => intro b; cases b <;> simp [PyData.eqvAll]
    | cons x a ih =>
      intro b
      cases b with
      | nil => simp [PyData.eqvAll]
      | cons y b =>
        rw [List.map_cons, List.map_cons, PyData.eqvAll, ih b]
        simp only [PyData.eqv]
        by_cases e : x = y <;> by_cases f : a = b <;> simp [e, f]
  show PyData.eqv (.tuple _) (.tuple _) = _
  simp only [PyData.eqv]
  exact h a b
theorem alike_T (a b : List Int) : alike (pyT a) (pyT b) = true := by
  have h : ∀ a b : List Int, alikeAll (a.map .int) (b.map .int) = true := fun a => by
    induction a with
    | nil => intro b; rfl
    | cons x a ih =>
      intro b
      cases b with
      | nil => rfl
      | cons y b => rw [List.map_cons, List.map_cons, alikeAll, ih b]; rfl
  show alike (.tuple _) (.tuple _) = true
  rw [alike]
  exact h a b
theorem lt_T (a b : List Int) : dataLt (pyT a) (pyT b) = ltL a b := dataLt_tI a b
theorem depth_T (a : List Int) : (pyT a).depth ≤ 3 := by
  have : ∀ l : List Int, PyData.depthAll (l.map .int) ≤ 1 := fun l => by
    induction l with
    | nil => simp [PyData.depthAll]
    | cons x l ih => simp only [List.map_cons, PyData.depthAll, PyData.depth]; omega
  have h := this a
  show (PyData.tuple (a.map .int)).depth ≤ 3
  simp only [PyData.depth]
  omega
/-- a pair of rows, three rows -/
def encP2 (p : RowI × RowI) : D := .tup [tI p.1, tI p.2]
def encP3 (p : Trip) : D := .tup [tI p.1, tI p.2.1, tI p.2.2]
abbrev py2 (p : RowI × RowI) : PyData := .tuple [pyT p.1, pyT p.2]
abbrev py3 (p : Trip) : PyData := .tuple [pyT p.1, pyT p.2.1, pyT p.2.2]
theorem toPy_P2 (p : RowI × RowI) : toPy (encP2 p) = some (py2 p) := by
  unfold encP2
  simp only [toPy, toPyL, toPy_tI, Option.map_some]
theorem toPy_P3 (p : Trip) : toPy (encP3 p) = some (py3 p) := by
  unfold encP3
  simp only [toPy, toPyL, toPy_tI, Option.map_some]
theorem lt_P2 (a b : RowI × RowI) : dataLt (py2 a) (py2 b) = lt2 a b := by
  show dataLt (.tuple [pyT a.1, pyT a.2]) (.tuple [pyT b.1, pyT b.2]) = _
  rw [dataLt_pair (alike_T _ _) (alike_T _ _), eqv_T, eqv_T, lt_T, lt_T]
  unfold lt2 TotLt.lex
  by_cases h : a.1 = b.1
  · rw [if_pos (by simpa using h), if_pos h]
    by_cases k : a.2 = b.2
    · rw [if_pos (by simpa using k), k, ltL_tot.irr]
    · rw [if_neg (by simpa using k)]
  · rw [if_neg (by simpa using h), if_neg h]
theorem lt_P3 (a b : Trip) : dataLt (py3 a) (py3 b) = lt3 a b := by
  have h2 := lt_P2 a.2 b.2
  show dataLt (.tuple [pyT a.1, pyT a.2.1, pyT a.2.2]) (.tuple [pyT b.1, pyT b.2.1, pyT b.2.2]) = _
  have h2' : PyProof.Rows.lexLt itemOrd (keyToksAll [pyT a.2.1, pyT a.2.2]) (keyToksAll [pyT b.2.1, pyT b.2.2]) = lt2 a.2 b.2 := by
    rw [← dataLt_tuple]; exact h2
  rw [dataLt_tuple, dataLt_cons (alike_T _ _), eqv_T, h2', lt_T]
  unfold lt3 TotLt.lex
  by_cases h : a.1 = b.1
  · rw [if_pos (by simpa using h), if_pos h]
  · rw [if_neg (by simpa using h), if_neg h]
theorem toPyL_map {α : Type} {enc : α → D} {py : α → PyData} (h : ∀ a, toPy (enc a) = some (py a)) (l : List α) : toPyL (l.map enc) = some (l.map py) := by
  induction l with
  | nil => rfl
  | cons x l ih => simp only [List.map_cons, toPyL, h, ih]
theorem sort_enc {α : Type} {enc : α → D} {py : α → PyData} {lt : α → α → Bool} (h : ∀ a, toPy (enc a) = some (py a)) (hl : ∀ a b, dataLt (py a) (py b) = lt a b) (l : List α) : (l.map enc).mergeSort (dataLe false pyOf) = (l.mergeSort (TotLt.le lt)).map enc := by
  refine (List.map_mergeSort (r := TotLt.le lt) (s := dataLe false pyOf) (f := enc) (l := l) fun a _ b _ => ?_).symm
  show (!lt b a) = !dataLt (pyOf (enc b)) (pyOf (enc a))
  have e : ∀ a, pyOf (enc a) = py a := fun a => by unfold pyOf; rw [h a]; rfl
  rw [e, e, hl]
theorem sorts_P2 {μ : Mu} {d : D} {ps : List (RowI × RowI)} {P : D → Mu → Prop} (hw : walkL μ d = some (ps.map encP2)) (hl : ps.length ≤ 1000) (p : P (.lst ((ps.mergeSort (TotLt.le lt2)).map encP2)) μ) : gSort [d] μ P := by
  refine ⟨d, _, ps.map py2, rfl, hw, toPyL_map toPy_P2 ps, fun x hx y hy => ?_, .inl fun x hx => ?_, by rw [List.length_map]; show _ ≤ 100000; omega, fun x hx => ?_, ?_⟩
  · obtain ⟨a, _, rfl⟩ := List.mem_map.mp hx
    obtain ⟨b, _, rfl⟩ := List.mem_map.mp hy
    show alike (.tuple [pyT a.1, pyT a.2]) (.tuple [pyT b.1, pyT b.2]) = true
    simp only [alike, alikeAll, Bool.and_eq_true]
    exact ⟨alike_T _ _, alike_T _ _, trivial⟩
  · obtain ⟨a, _, rfl⟩ := List.mem_map.mp hx
    exact ⟨_, _, rfl⟩
  · obtain ⟨a, _, rfl⟩ := List.mem_map.mp hx
    have h1 := depth_T a.1
    have h2 := depth_T a.2
    show (PyData.tuple [pyT a.1, pyT a.2]).depth ≤ 50
    rw [PyData.depth]
    simp only [PyData.depthAll]
    omega
  · rw [sort_enc toPy_P2 lt_P2]
    exact p
theorem sorts_P3 {μ : Mu} {d : D} {ps : List Trip} {P : D → Mu → Prop} (hw : walkL μ d = some (ps.map encP3)) (hl : ps.length ≤ 1000) (p : P (.lst ((ps.mergeSort (TotLt.le lt3)).map encP3)) μ) : gSort [d] μ P := by
  refine ⟨d, _, ps.map py3, rfl, hw, toPyL_map toPy_P3 ps, fun x hx y hy => ?_, .inl fun x hx => ?_, by rw [List.length_map]; show _ ≤ 100000; omega, fun x hx => ?_, ?_⟩
  · obtain ⟨a, _, rfl⟩ := List.mem_map.mp hx
    obtain ⟨b, _, rfl⟩ := List.mem_map.mp hy
    show alike (.tuple [pyT a.1, pyT a.2.1, pyT a.2.2]) (.tuple [pyT b.1, pyT b.2.1, pyT b.2.2]) = true
    simp only [alike, alikeAll, Bool.and_eq_true]
    exact ⟨alike_T _ _, alike_T _ _, alike_T _ _, trivial⟩
  · obtain ⟨a, _, rfl⟩ := List.mem_map.mp hx
    exact ⟨_, _, rfl⟩
  · obtain ⟨a, _, rfl⟩ := List.mem_map.mp hx
    have h1 := depth_T a.1
    have h2 := depth_T a.2.1
    have h3 := depth_T a.2.2
    show (PyData.tuple [pyT a.1, pyT a.2.1, pyT a.2.2]).depth ≤ 50
    rw [PyData.depth]
    simp only [PyData.depthAll]
    omega
  · rw [sort_enc toPy_P3 lt_P3]
    exact p
/-! ### homes -/
theorem homesOf_snoc (ts : List Trip) (t : Trip) : homesOf (ts ++ [t]) = if t.1 ∈ homesOf ts then homesOf ts else homesOf ts ++ [t.1] := by
  unfold homesOf
  rw [List.foldl_append]; rfl
theorem list_snoc_ind {α : Type} {P : List α → Prop} (h0 : P []) (h1 : ∀ l x, P l → P (l ++ [x])) : ∀ l, P l := fun l => by
  have : ∀ n (l : List α), l.length = n → P l := fun n => by
    induction n with
    | zero => intro l h; rw [List.length_eq_zero_iff.mp h]; exact h0
    | succ n ih =>
      intro l h
      rcases List.eq_nil_or_concat l with e | ⟨m, x, e⟩
      · rw [e] at h; simp at h
      · rw [List.concat_eq_append] at e
        subst e
        exact h1 m x (ih m (by simpa using h))
  exact this _ l rfl
theorem homesOf_nd : ∀ ts, (homesOf ts).Nodup := list_snoc_ind List.nodup_nil fun ts t ih => by
  rw [homesOf_snoc]
  split
  · exact ih
  · rename_i q
    rw [List.nodup_append]
    refine ⟨ih, by simp, fun u hu v hv e => q ?_⟩
    rw [List.mem_singleton.mp hv] at e
    exact e ▸ hu
theorem homesOf_mem : ∀ (ts : List Trip) (h : RowI), h ∈ homesOf ts ↔ ∃ t ∈ ts, t.1 = h := list_snoc_ind (P := fun ts => ∀ h, h ∈ homesOf ts ↔ ∃ t ∈ ts, t.1 = h) (by simp [homesOf]) fun ts t ih h => by
  rw [homesOf_snoc]
  by_cases q : t.1 ∈ homesOf ts
  · rw [if_pos q, ih h]
    constructor
    · rintro ⟨u, hu, e⟩; exact ⟨u, List.mem_append_left _ hu, e⟩
    · rintro ⟨u, hu, e⟩
      rcases List.mem_append.mp hu with z | z
      · exact ⟨u, z, e⟩
      · rw [List.mem_singleton.mp z] at e; exact (ih h).mp (e ▸ q)
  · rw [if_neg q, List.mem_append, ih h, List.mem_singleton]
    constructor
    · rintro (⟨u, hu, e⟩ | e)
      · exact ⟨u, List.mem_append_left _ hu, e⟩
      · exact ⟨t, by simp, e.symm⟩
    · rintro ⟨u, hu, e⟩
      rcases List.mem_append.mp hu with z | z
      · exact .inl ⟨u, z, e⟩
      · rw [List.mem_singleton.mp z] at e; exact .inr e.symm
theorem homesOf_len (ts : List Trip) : (homesOf ts).length ≤ ts.length := by
  have := nodup_len (homesOf_nd ts) (m := ts.map (·.1)) fun h hh => by
    obtain ⟨t, ht, e⟩ := (homesOf_mem ts h).mp hh
    exact List.mem_map.mpr ⟨t, ht, e⟩
  rwa [List.length_map] at this
theorem pairsAt_snoc (ts : List Trip) (t : Trip) (h : RowI) : pairsAt (ts ++ [t]) h = pairsAt ts h ++ if t.1 = h then [t.2] else [] := by
  unfold pairsAt
  rw [List.filter_append, List.map_append]
  congr 1
  by_cases e : t.1 = h <;> simp [e]
theorem pairsAt_none {ts : List Trip} {h : RowI} (q : h ∉ homesOf ts) : pairsAt ts h = [] := by
  unfold pairsAt
  rw [List.map_eq_nil_iff, List.filter_eq_nil_iff]
  intro t ht e
  exact q ((homesOf_mem ts h).mpr ⟨t, ht, by simpa using e⟩)
theorem pairsAt_len (ts : List Trip) (h : RowI) : (pairsAt ts h).length ≤ ts.length := by
  unfold pairsAt
  rw [List.length_map]
  exact List.length_filter_le _ _
end K80
/-! V34 -/
namespace K80
open PySem PySem.Spec PyProof.Rows L2 L3 PySem.W
structure FoundAt (μ0 μ : Mu) (p : Addr) (ts : List Trip) (qs : List Addr) : Prop where
  len : qs.length = (homesOf ts).length
  at_ : μ p = some (.dT (List.zipWith (fun h q => (kI h, D.own q)) (homesOf ts) qs))
  each : ∀ (j : Nat) h q, (homesOf ts)[j]? = some h → qs[j]? = some q → μ q = some (.lst ((pairsAt ts h).map encP2))
  nd : (p :: qs).Nodup
  new : ∀ q ∈ p :: qs, μ0 q = none
  ext : Ext μ0 μ
theorem look_zip : ∀ {hs : List RowI} {qs : List Addr} {h : RowI}, qs.length = hs.length → (∀ v, lookG (List.zipWith (fun h q => (kI h, D.own q)) hs qs) (kI h) = some v → ∃ (j : Nat) (q : Addr), hs[j]? = some h ∧ qs[j]? = some q ∧ v = .own q) ∧ (lookG (List.zipWith (fun h q => (kI h, D.own q)) hs qs) (kI h) = none → h ∉ hs)
  | [], _, h, _ => ⟨fun v e => (by rw [List.zipWith_nil_left] at e; cases e), fun _ => by simp⟩
  | a :: hs, [], h, e => by simp at e
  | a :: hs, b :: qs, h, e => by
    obtain ⟨i1, i2⟩ := look_zip (hs := hs) (qs := qs) (h := h) (by simpa using e)
    have st : lookG (List.zipWith (fun h q => (kI h, D.own q)) (a :: hs) (b :: qs)) (kI h) = if a = h then some (.own b) else lookG (List.zipWith (fun h q => (kI h, D.own q)) hs qs) (kI h) := by
      unfold lookG
      rw [List.zipWith_cons_cons, List.find?_cons]
      by_cases z : a = h
      · subst z; simp
      · have : ¬ kI a = kI h := fun q => z (kI_inj q)
        rw [show decide ((kI a, D.own b).1 = kI h) = false from decide_eq_false this, if_neg z]
    constructor
    · intro v hv
      rw [st] at hv
      split at hv
      · rename_i z
        cases hv
        exact ⟨0, b, by rw [z]; rfl, rfl, rfl⟩
      · obtain ⟨j, q, h1, h2, h3⟩ := i1 v hv
        exact ⟨j + 1, q, h1, h2, h3⟩
    · intro hv
      rw [st] at hv
      split at hv
      · cases hv
      · rename_i z
        have := i2 hv
        intro hm
        rcases List.mem_cons.mp hm with y | y
        · exact z y.symm
        · exact this y
theorem zip_keys {hs : List RowI} {qs : List Addr} (e : qs.length = hs.length) : (List.zipWith (fun h q => (kI h, D.own q)) hs qs).map (·.1) = hs.map kI := by
  rw [List.map_zipWith]
  induction hs generalizing qs with
  | nil => simp
  | cons a hs ih =>
    cases qs with
    | nil => simp at e
    | cons b qs => rw [List.zipWith_cons_cons, ih (by simpa using e)]; rfl
theorem zip_snoc {hs : List RowI} {qs : List Addr} {h : RowI} {q : Addr} (e : qs.length = hs.length) : List.zipWith (fun h q => (kI h, D.own q)) (hs ++ [h]) (qs ++ [q]) = List.zipWith (fun h q => (kI h, D.own q)) hs qs ++ [(kI h, D.own q)] := by
  rw [List.zipWith_append e.symm]; rfl
theorem look_at {hs : List RowI} {qs : List Addr} {h : RowI} {j : Nat} {q : Addr} (nd : hs.Nodup) (e : qs.length = hs.length) (h1 : hs[j]? = some h) (h2 : qs[j]? = some q) : lookG (List.zipWith (fun h q => (kI h, D.own q)) hs qs) (kI h) = some (.own q) := by
  obtain ⟨i1, i2⟩ := look_zip (hs := hs) (qs := qs) (h := h) e
  cases hv : lookG (List.zipWith (fun h q => (kI h, D.own q)) hs qs) (kI h) with
  | none => exact absurd (List.mem_of_getElem? h1) (i2 hv)
  | some v =>
    obtain ⟨j', q', e1, e2, rfl⟩ := i1 v hv
    have hj : j < hs.length := (List.getElem?_eq_some_iff.mp h1).1
    have : j = j' := (List.getElem?_inj hj nd).mp (h1.trans e1.symm)
    subst this
    rw [h2] at e2
    rw [Option.some.inj e2]
theorem FoundAt.start {μ : Mu} {p : Addr} (h : μ p = none) : FoundAt μ (mset μ p (.dT [])) p [] [] := ⟨rfl, mset_same, fun j h q e => by simp [homesOf] at e, by simp, fun q hq => by rw [List.mem_singleton.mp hq]; exact h, (Ext.refl μ).set h⟩
/-- one more of a home that is known -/
theorem FoundAt.old {μ0 μ : Mu} {p : Addr} {ts : List Trip} {qs : List Addr} {t : Trip} {j : Nat} {q : Addr} (f : FoundAt μ0 μ p ts qs) (hj : (homesOf ts)[j]? = some t.1) (hq : qs[j]? = some q) :
    FoundAt μ0 (mset μ q (.lst ((pairsAt ts t.1 ++ [t.2]).map encP2))) p (ts ++ [t]) qs := by
  have hh : homesOf (ts ++ [t]) = homesOf ts := by rw [homesOf_snoc, if_pos (List.mem_of_getElem? hj)]
  have hqm := List.mem_of_getElem? hq
  have ne : p ≠ q := fun e => by have := f.nd; rw [List.nodup_cons] at this; exact this.1 (e ▸ hqm)
  refine ⟨by rw [hh]; exact f.len, by rw [hh, mset_ne ne]; exact f.at_, fun i h u hi hu => ?_, f.nd, f.new, f.ext.set (f.new q (List.mem_cons_of_mem _ hqm))⟩
  rw [hh] at hi
  rw [pairsAt_snoc]
  by_cases e : i = j
  · subst e
    rw [hj] at hi
    rw [hq] at hu
    cases hi; cases hu
    rw [if_pos rfl, mset_same]
  · have hn : u ≠ q := fun z => by
      subst z
      have nd := f.nd
      rw [List.nodup_cons] at nd
      exact e ((List.getElem?_inj (List.getElem?_eq_some_iff.mp hu).1 nd.2).mp (hu.trans hq.symm))
    have hne : t.1 ≠ h := fun z => by
      subst z
      exact e ((List.getElem?_inj (List.getElem?_eq_some_iff.mp hi).1 (homesOf_nd ts)).mp (hi.trans hj.symm))
    rw [mset_ne hn, if_neg hne, List.append_nil]
    exact f.each i h u hi hu
/-- a new home -/
theorem FoundAt.fresh {μ0 μ : Mu} {p : Addr} {ts : List Trip} {qs : List Addr} {t : Trip} {q : Addr} (f : FoundAt μ0 μ p ts qs) (hn : t.1 ∉ homesOf ts) (hq : μ q = none) :
    FoundAt μ0 (mset (mset (mset μ q (.lst [])) p (.dT (List.zipWith (fun h q => (kI h, D.own q)) (homesOf ts) qs ++ [(kI t.1, D.own q)]))) q (.lst [encP2 t.2])) p (ts ++ [t]) (qs ++ [q]) := by
  have hh : homesOf (ts ++ [t]) = homesOf ts ++ [t.1] := by rw [homesOf_snoc, if_neg hn]
  have ne : p ≠ q := fun e => by rw [← e, f.at_] at hq; cases hq
  have qnot : q ∉ qs := fun z => by
    obtain ⟨j, hj, e⟩ := List.getElem_of_mem z
    have hj2 : j < (homesOf ts).length := by rw [← f.len]; exact hj
    have := f.each j _ q (List.getElem?_eq_getElem hj2) (by rw [List.getElem?_eq_getElem hj, e])
    rw [hq] at this; cases this
  refine ⟨by rw [hh, List.length_append, List.length_append, f.len]; rfl, by rw [hh, mset_ne ne, mset_same, zip_snoc f.len], fun i h u hi hu => ?_, ?_, fun u hu => ?_, ?_⟩
  · rw [hh] at hi
    rw [pairsAt_snoc]
    by_cases e : i < (homesOf ts).length
    · rw [List.getElem?_append_left e] at hi
      rw [List.getElem?_append_left (by rw [f.len]; exact e)] at hu
      have hne : t.1 ≠ h := fun z => hn (z ▸ List.mem_of_getElem? hi)
      have un : u ≠ q := fun z => qnot (z ▸ List.mem_of_getElem? hu)
      have up : u ≠ p := fun z => by have := f.nd; rw [List.nodup_cons] at this; exact this.1 (z ▸ List.mem_of_getElem? hu)
      rw [mset_ne un, mset_ne up, mset_ne un, if_neg hne, List.append_nil]
      exact f.each i h u hi hu
    · have hi2 : i = (homesOf ts).length := by
        have := (List.getElem?_eq_some_iff.mp hi).1
        simp at this; omega
      subst hi2
      rw [List.getElem?_append_right (Nat.le_refl _)] at hi
      rw [List.getElem?_append_right (by rw [f.len]; exact Nat.le_refl _), f.len] at hu
      simp at hi hu
      subst hi hu
      rw [mset_same, if_pos rfl, pairsAt_none hn]; rfl
  · have nd := f.nd
    rw [List.nodup_cons] at nd ⊢
    refine ⟨fun z => ?_, ?_⟩
    · rcases List.mem_append.mp z with y | y
      · exact nd.1 y
      · exact ne (List.mem_singleton.mp y)
    · rw [List.nodup_append]
      exact ⟨nd.2, by simp, fun a ha b hb e => qnot (by rw [List.mem_singleton.mp hb] at e; exact e ▸ ha)⟩
  · rcases List.mem_cons.mp hu with y | y
    · exact f.new u (y ▸ List.mem_cons_self)
    · rcases List.mem_append.mp y with z | z
      · exact f.new u (List.mem_cons_of_mem _ z)
      · rw [List.mem_singleton.mp z]; exact f.ext.none hq
  · exact ((f.ext.set (f.ext.none hq)).set (f.new p List.mem_cons_self)).set (f.ext.none hq)
theorem place_len {n : Nat} {inv : List (List Int)} {x : List Int} (h : Sq n inv) : (placeI inv x).length = n := by rw [placeI_len]; exact h.len
theorem home_len {n : Nat} {inv : List (List Int)} {sides x : List Int} (h : Sq n inv) (hs : SidesOk n sides) : (homeI (placeI inv x) sides).length = n := by
  unfold homeI
  rw [List.length_map, List.length_zip, place_len h, hs.len]; omega
theorem vc__law_parts {K : PySem.W.Frag} : ∀ ds μ P, sp__law_parts K ds μ P → t__law_parts K { nx := fun _ μ' => fgt P .non μ', rt := fgt P } (startD N__law_parts.length ds) μ := by
  rintro ds μ P ⟨n, inv, sides, pts, rfl, h0, h4, hq, hs, h60, hx, k⟩
  have hsl := hs.len
  unfold t__law_parts
  (refine seq_step ?_; simp! only [wNewT])
  intro p hp
  (refine seq_step ?_; simp! only [])
  let T := fun i => tripsOf inv sides (pts.take i)
  have Tsucc : ∀ i x, pts[i]? = some x → T (i + 1) = T i ++ [(homeI (placeI inv x) sides, placeI inv x, x)] := fun i x e => by
    show tripsOf inv sides (pts.take (i + 1)) = _
    rw [List.take_succ, e]
    unfold tripsOf
    rw [List.map_append]; rfl
  refine forD_inv (fun i δ μ' => ∃ x4 x5 x6 qs, δ = [some (.lst (inv.map lI)), some (.lst (sides.map .int)), some (.lst (pts.map tI)), some (.own p), x4, x5, x6, none] ∧ FoundAt μ μ' p (T i) qs) 0 ⟨none, none, none, [], rfl, .start hp⟩ (fun _ _ _ _ => trivial) ?_ ?_
  · rintro i x δ μ1 hx' ⟨x4, x5, x6, qs, rfl, f⟩ nx hnx
    rw [Nat.zero_add] at f hnx
    rw [List.getElem?_map, Option.map_eq_some_iff] at hx'
    obtain ⟨pt, hpt, rfl⟩ := hx'
    have hi : i < pts.length := (List.getElem?_eq_some_iff.mp hpt).1
    have hpo := hx pt (List.mem_of_getElem? hpt)
    rw [Tsucc i pt hpt] at hnx
    have hlen : (T i).length ≤ 60 := by
      show (tripsOf inv sides (pts.take i)).length ≤ 60
      unfold tripsOf
      rw [List.length_map, List.length_take]; omega
    let t : Trip := (homeI (placeI inv pt) sides, placeI inv pt, pt)
    simp! only []
    refine seq_step ?_
    simp! only []
    refine ⟨n, inv, pt, rfl, h4, hq, hpo, ?_⟩
    simp! only []
    refine seq_step ?_
    simp! only [wDSetdT, f.at_]
    refine ⟨_, rfl, placeI inv pt, sides, rfl, by rw [place_len hq]; omega, fun s hs' => divS (by have := hs.lo s hs'; omega) (by have := hs.lo s hs'; have := hs.hi s hs'; omega), by decide, fun q hq' => ?_⟩
    have qp : p ≠ q := fun e => by rw [← e, f.at_] at hq'; cases hq'
    have hzl : (List.zipWith (fun h q => (kI h, D.own q)) (homesOf (T i)) qs).length ≤ lim := by
      rw [List.length_zipWith]
      have := homesOf_len (T i)
      show _ ≤ 100000
      omega
    refine ⟨_, by rw [mset_ne qp]; exact f.at_, kI (homeI (placeI inv pt) sides), congrArg D.tup (kI_D _).symm, hzl, fun v hv => ?_, fun hv => ?_⟩
    · obtain ⟨j, q2, h1, h2, rfl⟩ := (look_zip f.len).1 v hv
      have e2 := f.each j _ q2 h1 h2
      have q2q : q2 ≠ q := fun e => by rw [e, hq'] at e2; cases e2
      have e3 : mset μ1 q (.lst []) q2 = some (.lst ((pairsAt (T i) (homeI (placeI inv pt) sides)).map encP2)) := by rw [mset_ne q2q]; exact e2
      have f2 : FoundAt μ (mset μ1 q (.lst [])) p (T i) qs := ⟨f.len, by rw [mset_ne qp]; exact f.at_, fun j' h u a b => by
        have := f.each j' h u a b
        rw [mset_ne fun z => by rw [z, hq'] at this; cases this]; exact this, f.nd, f.new, f.ext.set (f.ext.none hq')⟩
      have hpl := pairsAt_len (T i) (homeI (placeI inv pt) sides)
      have f3 := f2.old (t := t) h1 h2
      rw [List.map_append] at f3
      exact ⟨(tyD_own e3).mpr rfl, by decide, q2, rfl, _, e3, by rw [List.length_map]; show _ ≤ 100000; omega, hnx _ _ ⟨_, _, _, qs, rfl, f3⟩⟩
    · have hn := (look_zip f.len).2 hv
      have hpf : putG (List.zipWith (fun h q => (kI h, D.own q)) (homesOf (T i)) qs) (kI (homeI (placeI inv pt) sides)) (.own q) = List.zipWith (fun h q => (kI h, D.own q)) (homesOf (T i)) qs ++ [(kI t.1, D.own q)] := putG_fresh (by
        rw [zip_keys f.len]
        intro z
        obtain ⟨y, hy, e⟩ := List.mem_map.mp z
        exact hn (kI_inj e ▸ hy))
      have e3 : mset (mset μ1 q (.lst [])) p (.dT (putG (List.zipWith (fun h q => (kI h, D.own q)) (homesOf (T i)) qs) (kI (homeI (placeI inv pt) sides)) (.own q))) q = some (.lst []) := by rw [mset_ne (Ne.symm qp), mset_same]
      have f3 := f.fresh (t := t) hn hq'
      rw [← hpf] at f3
      exact ⟨(tyD_own e3).mpr rfl, by decide, _, e3, by decide, hnx _ _ ⟨_, _, _, qs ++ [q], rfl, f3⟩⟩
  · rintro δ μ1 ⟨x4, x5, x6, qs, rfl, f⟩
    have hlen0 : 0 + (pts.map tI).length = pts.length := by simp
    have hT : T pts.length = tripsOf inv sides pts := by show tripsOf inv sides (pts.take pts.length) = _; rw [List.take_length]
    rw [hlen0, hT] at f
    have hlen : (tripsOf inv sides pts).length ≤ 60 := by unfold tripsOf; rw [List.length_map]; exact h60
    have hhl := homesOf_len (tripsOf inv sides pts)
    generalize hts : tripsOf inv sides pts = ts at *
    dsimp only
    simp! only []
    refine ⟨.own p, List.zipWith (fun h q => (h, D.own q)) (homesOf ts) qs, rfl, ?_, fun z hz => ?_, by rw [List.length_zipWith]; omega, ?_⟩
    · rw [dicT_own f.at_, List.map_zipWith]
    · have hz1 : z.1 ∈ homesOf ts := by
        obtain ⟨j, hj, e⟩ := List.getElem_of_mem hz
        rw [List.getElem_zipWith] at e
        rw [← e]
        exact List.getElem_mem _
      obtain ⟨t, ht, e⟩ := (homesOf_mem ts z.1).mp hz1
      rw [← hts] at ht
      unfold tripsOf at ht
      obtain ⟨x, _, rfl⟩ := List.mem_map.mp ht
      refine ⟨fun q => ?_, encI_depth _⟩
      have := congrArg List.length (e.trans q)
      rw [home_len hq hs] at this
      simp at this; omega
    · have ek : (List.zipWith (fun h q => (h, D.own q)) (homesOf ts) qs).map (·.1) = homesOf ts := by
        rw [List.map_zipWith]
        have : ∀ (hs : List RowI) (qs : List Addr), qs.length = hs.length → List.zipWith (fun h (q : Addr) => (h, D.own q).1) hs qs = hs := fun hs => by
          induction hs with
          | nil => intro qs _; simp
          | cons a hs ih =>
            intro qs e
            cases qs with
            | nil => simp at e
            | cons b qs => rw [List.zipWith_cons_cons, ih qs (by simpa using e)]
        exact this _ _ f.len
      rw [ek, leI_eq]
      simp! only []
      have hml : ((homesOf ts).mergeSort fun a b => TotLt.le ltL (id a) (id b)).length ≤ lim := by rw [List.length_mergeSort]; show _ ≤ 100000; omega
      refine ⟨by rw [List.length_map]; exact hml, lcD_of tupI (fun h => encG (h, ((pairsAt ts h).mergeSort (TotLt.le lt2)).map (·.2))) (by trivial) (fun h hh Ry Rn h1 h2 => ?_) ?_⟩
      · have hh' : h ∈ homesOf ts := (List.mergeSort_perm _ _).mem_iff.mp hh
        obtain ⟨j, hj, e⟩ := List.getElem_of_mem hh'
        have hjq : j < qs.length := by rw [f.len]; exact hj
        have lk := look_at (h := h) (q := qs[j]) (homesOf_nd ts) f.len (by rw [List.getElem?_eq_getElem hj, e]) (List.getElem?_eq_getElem hjq)
        have eq := f.each j h qs[j] (by rw [List.getElem?_eq_getElem hj, e]) (List.getElem?_eq_getElem hjq)
        simp! only [gDGet]
        refine ⟨_, .inr ⟨_, kI h, dicT_own f.at_, congrArg D.tup (kI_D h).symm, lk.symm⟩, ?_⟩
        have hpl := pairsAt_len ts h
        refine sorts_P2 (walkL_own eq) (by omega) ?_
        simp! only []
        have hm2 : ((pairsAt ts h).mergeSort (TotLt.le lt2)).length ≤ lim := by rw [List.length_mergeSort]; show _ ≤ 100000; omega
        refine ⟨by rw [List.length_map]; exact hm2, lcD_of encP2 (fun z => tI z.2) (by trivial) (fun z hz Ry' Rn' g1 g2 => ?_) ?_⟩
        · unfold encP2
          simp! only []
          exact g1 _ rfl
        · rw [List.nil_append]
          refine ⟨by decide, ?_⟩
          have := h1 _ rfl
          unfold encG at this
          rw [List.map_map] at this
          exact this
      · rw [List.nil_append]
        refine ⟨μ, f.ext.fgt, ?_⟩
        unfold lawParts partsOf at k
        rw [hts, List.map_map] at k
        exact k
end K80
/-! V35 -/
namespace K80
open PySem PySem.Spec PyProof.Rows L2 L3 PySem.W
theorem shaped_T (l : List Int) : SeqAt.shaped (pyT l) = true := by
  unfold SeqAt.shaped
  rw [Bool.and_eq_true]
  refine ⟨?_, by have := depth_T l; simp; omega⟩
  have : ∀ l : List Int, PyData.canLayAll0 (l.map .int) = true := fun l => by
    induction l with
    | nil => rfl
    | cons x l ih => rw [List.map_cons, PyData.canLayAll0, ih]; rfl
  show (PyData.tuple _).canLay0 = true
  rw [PyData.canLay0]
  exact this l
def encQ (g : RowI × List RowI) (q : Addr) : D := .tup [tI g.1, .own q]
/-- told so far: the groups gs at the lists qs -/
structure TP (μ0 μ : Mu) (p t : Addr) (gs : List (RowI × List RowI)) (qs : List Addr) : Prop where
  len : qs.length = gs.length
  at_ : μ t = some (.lst (List.zipWith encQ gs qs))
  each : ∀ (i : Nat) g q, gs[i]? = some g → qs[i]? = some q → μ q = some (.lst (g.2.map tI))
  nd : (t :: qs).Nodup
  np : p ∉ t :: qs
  new : ∀ q ∈ t :: qs, μ0 q = none
  old : ∀ b, b ≠ p → b ∉ t :: qs → μ b = μ0 b
theorem TP.nof {μ0 μ : Mu} {p t : Addr} {gs : List (RowI × List RowI)} {qs : List Addr} (f : TP μ0 μ p t gs qs) (hp : μ p ≠ none) {q : Addr} (h : μ q = none) : q ≠ p ∧ q ∉ t :: qs ∧ μ0 q = none := by
  have h1 : q ≠ p := fun e => hp (e ▸ h)
  have h2 : q ∉ t :: qs := fun z => by
    rcases List.mem_cons.mp z with y | y
    · rw [y, f.at_] at h; cases h
    · obtain ⟨j, hj, e⟩ := List.getElem_of_mem y
      have := f.each j _ q (List.getElem?_eq_getElem (by rw [← f.len]; exact hj)) (by rw [List.getElem?_eq_getElem hj, e])
      rw [h] at this; cases this
  exact ⟨h1, h2, by rw [← f.old q h1 h2]; exact h⟩
theorem TP.fresh {μ0 μ : Mu} {p t : Addr} {gs : List (RowI × List RowI)} {qs : List Addr} {h x : RowI} {q : Addr} (f : TP μ0 μ p t gs qs) (hp : μ p ≠ none) (hq : μ q = none) :
    TP μ0 (mset (mset μ q (.lst [tI x])) t (.lst (List.zipWith encQ gs qs ++ [encQ (h, [x]) q]))) p t (gs ++ [(h, [x])]) (qs ++ [q]) := by
  obtain ⟨h1, h2, h3⟩ := f.nof hp hq
  have tq : t ≠ q := fun e => h2 (by rw [e]; exact List.mem_cons_self)
  refine ⟨by rw [List.length_append, List.length_append, f.len]; rfl, ?_, fun i g u hi hu => ?_, ?_, fun z => ?_, fun u hu => ?_, fun b b1 b2 => ?_⟩
  · rw [mset_same, List.zipWith_append f.len.symm]; rfl
  · by_cases e : i < gs.length
    · rw [List.getElem?_append_left e] at hi
      rw [List.getElem?_append_left (by rw [f.len]; exact e)] at hu
      have um := List.mem_of_getElem? hu
      have ut : u ≠ t := fun z => by have := f.nd; rw [List.nodup_cons] at this; exact this.1 (z ▸ um)
      have uq : u ≠ q := fun z => h2 (List.mem_cons_of_mem _ (z ▸ um))
      rw [mset_ne ut, mset_ne uq]
      exact f.each i g u hi hu
    · have hi2 : i = gs.length := by
        have := (List.getElem?_eq_some_iff.mp hi).1
        simp at this; omega
      subst hi2
      rw [List.getElem?_append_right (Nat.le_refl _)] at hi
      rw [List.getElem?_append_right (by rw [f.len]; exact Nat.le_refl _), f.len] at hu
      simp at hi hu
      subst hi hu
      rw [mset_ne (Ne.symm tq), mset_same]; rfl
  · have nd := f.nd
    rw [List.nodup_cons] at nd ⊢
    refine ⟨fun z => ?_, ?_⟩
    · rcases List.mem_append.mp z with y | y
      · exact nd.1 y
      · exact tq (List.mem_singleton.mp y)
    · rw [List.nodup_append]
      exact ⟨nd.2, by simp, fun a ha b hb e => h2 (by rw [List.mem_singleton.mp hb] at e; exact List.mem_cons_of_mem _ (e ▸ ha))⟩
  · rcases List.mem_cons.mp z with y | y
    · exact f.np (y ▸ List.mem_cons_self)
    · rcases List.mem_append.mp y with w | w
      · exact f.np (List.mem_cons_of_mem _ w)
      · exact h1 (List.mem_singleton.mp w).symm
  · rcases List.mem_cons.mp hu with y | y
    · exact f.new u (y ▸ List.mem_cons_self)
    · rcases List.mem_append.mp y with w | w
      · exact f.new u (List.mem_cons_of_mem _ w)
      · rw [List.mem_singleton.mp w]; exact h3
  · have b3 : b ≠ t := fun e => b2 (e ▸ List.mem_cons_self)
    have b4 : b ≠ q := fun e => b2 (by rw [e]; simp)
    rw [mset_ne b3, mset_ne b4]
    exact f.old b b1 fun z => b2 (by
      rcases List.mem_cons.mp z with y | y
      · exact y ▸ List.mem_cons_self
      · exact List.mem_cons_of_mem _ (List.mem_append_left _ y))
theorem TP.more {μ0 μ : Mu} {p t : Addr} {gs : List (RowI × List RowI)} {qs : List Addr} {h x : RowI} {ps : List RowI} {q : Addr} (f : TP μ0 μ p t (gs ++ [(h, ps)]) (qs ++ [q])) :
    TP μ0 (mset μ q (.lst ((ps ++ [x]).map tI))) p t (gs ++ [(h, ps ++ [x])]) (qs ++ [q]) := by
  have nd := f.nd
  rw [List.nodup_cons] at nd
  have tq : t ≠ q := fun e => nd.1 (by rw [e]; simp)
  have hl : qs.length = gs.length := by have := f.len; simpa using this
  refine ⟨by rw [List.length_append, List.length_append, hl]; rfl, ?_, fun i g u hi hu => ?_, f.nd, f.np, f.new, fun b b1 b2 => ?_⟩
  · rw [mset_ne tq, f.at_, List.zipWith_append hl.symm, List.zipWith_append hl.symm]; rfl
  · by_cases e : i < gs.length
    · have hu0 := hu
      rw [List.getElem?_append_left e] at hi
      have uq : u ≠ q := fun z => by
        subst z
        have h1 : (qs ++ [u])[qs.length]? = some u := by simp
        have := (List.getElem?_inj (List.getElem?_eq_some_iff.mp hu0).1 nd.2).mp (hu0.trans h1.symm)
        omega
      rw [mset_ne uq]
      exact f.each i g u (by rw [List.getElem?_append_left e]; exact hi) hu
    · have hi2 : i = gs.length := by
        have := (List.getElem?_eq_some_iff.mp hi).1
        simp at this; omega
      subst hi2
      rw [List.getElem?_append_right (Nat.le_refl _)] at hi
      rw [List.getElem?_append_right (by rw [hl]; exact Nat.le_refl _), hl] at hu
      simp at hi hu
      subst hi hu
      rw [mset_same]
  · rw [mset_ne fun e => b2 (by rw [e]; simp)]
    exact f.old b b1 b2
theorem groupStep_snoc {gs : List (RowI × List RowI)} {h : RowI} {ps : List RowI} {t : Trip} : groupStep (gs ++ [(h, ps)]) t = if h = t.1 then gs ++ [(h, ps ++ [t.2.2])] else gs ++ [(h, ps)] ++ [(t.1, [t.2.2])] := by
  unfold groupStep
  simp
theorem groupStep_nil {t : Trip} : groupStep [] t = [(t.1, [t.2.2])] := rfl
theorem tI_snoc {ps : List RowI} {x : RowI} : (ps ++ [x]).map tI = ps.map tI ++ [tI x] := by rw [List.map_append]; rfl
theorem vc_parts {K : PySem.W.Frag} : ∀ ds μ P, sp_parts K ds μ P → t_parts K { nx := fun _ μ' => fgt P .non μ', rt := fgt P } (startD N_parts.length ds) μ := by
  rintro ds μ P ⟨deep, n, m, rows, sides, inv, pts, rfl, e, hm, h0, h4, hq, hs, hp, k⟩
  have hfew := hp.few
  have hsl := hs.len
  unfold t_parts
  refine seq_step ?_
  have el : lotI K n pts = .ins (aLot K) (lotF K n pts) := rfl
  have eb : blockI K m rows sides inv = .ins (aBlock K) (blockF K m rows sides inv) := rfl
  simp! only [gOwn, el, eb, lot_nest, block_nest]
  refine ⟨_, rfl, _, rfl, n, m, rfl, _, rfl, ?_⟩
  rw [if_neg (by simp [e])]
  refine seq_step ?_
  simp! only []
  refine ⟨rfl, m, rows, sides, inv, rfl, by omega, ?_⟩
  (refine seq_step ?_; simp! only [])
  refine ⟨by decide, fun p hp' => ?_⟩
  refine seq_step ?_
  simp! only []
  refine ⟨rfl, n, pts, rfl, by omega, ?_⟩
  simp! only []
  let T := fun i => tripsOf inv sides (pts.take i)
  have Tsucc : ∀ i x, pts[i]? = some x → T (i + 1) = T i ++ [(homeI (placeI inv x) sides, placeI inv x, x)] := fun i x e => by
    show tripsOf inv sides (pts.take (i + 1)) = _
    rw [List.take_succ, e]
    unfold tripsOf
    rw [List.map_append]; rfl
  have Tlen : ∀ i, (T i).length ≤ 63 := fun i => by
    show (tripsOf inv sides (pts.take i)).length ≤ 63
    unfold tripsOf
    rw [List.length_map, List.length_take]; omega
  refine forD_inv (fun i δ μ' => ∃ x4 x5 x6, δ = [some (lotI K n pts), some (blockI K m rows sides inv), some (.lst (sides.map .int)), some (.own p), x4, x5, x6, none, none, none, none] ∧ μ' p = some (.lst ((T i).map encP3)) ∧ ∀ b, b ≠ p → μ' b = μ b) 0
    ⟨none, none, none, rfl, mset_same, fun b hb => mset_ne hb⟩ (fun _ _ _ _ => trivial) ?_ ?_
  · rintro i x δ μ1 hx' ⟨x4, x5, x6, rfl, m1, f1⟩ nx hnx
    rw [Nat.zero_add] at m1 hnx
    rw [List.getElem?_map, Option.map_eq_some_iff] at hx'
    obtain ⟨pt, hpt, rfl⟩ := hx'
    have hpo := hp.pt pt (List.mem_of_getElem? hpt)
    have hTl := Tlen i
    rw [Tsucc i pt hpt] at hnx
    simp! only []
    refine seq_step ?_
    simp! only []
    refine ⟨_, rfl, rfl, deep, m, rows, sides, inv, pt, rfl, hm, h4, hq, hpo, ?_⟩
    unfold tI
    simp! only []
    refine seq_step ?_
    simp! only []
    rw [zipD]
    have hpl := place_len (x := pt) hq
    refine ⟨by rw [List.length_map, List.length_zip]; show _ ≤ 100000; omega, lcD_of _ (fun z => .int (z.1.fdiv z.2)) (by first | trivial | exact ⟨trivial, trivial⟩) (fun z hz Ry Rn g1 g2 => ?_) ?_⟩
    · simp! only []
      have h2 := hs.lo z.2 (List.of_mem_zip hz).2
      have h3 := hs.hi z.2 (List.of_mem_zip hz).2
      exact ⟨divS (by omega) (by omega), g1 _ rfl⟩
    · rw [List.nil_append, homeI_of]
      refine ⟨_, rfl, ?_⟩
      refine ⟨(tyD_own m1).mpr rfl, by decide, _, m1, by rw [List.length_map]; show _ ≤ 100000; omega, hnx _ _ ⟨_, _, _, rfl, ?_, fun b hb => (mset_ne hb).trans (f1 b hb)⟩⟩
      rw [mset_same, List.map_append]; rfl
  · rintro δ μ1 ⟨x4, x5, x6, rfl, m1, f1⟩
    have hlen0 : 0 + (pts.map tI).length = pts.length := by simp
    have hT : T pts.length = tripsOf inv sides pts := by show tripsOf inv sides (pts.take pts.length) = _; rw [List.take_length]
    rw [hlen0, hT] at m1
    have hlen : (tripsOf inv sides pts).length ≤ 63 := by unfold tripsOf; rw [List.length_map]; exact hfew
    have hparts : group ((tripsOf inv sides pts).mergeSort (TotLt.le lt3)) = lawParts inv sides pts := parts_eq (homesOf_nd _) (homesOf_mem _)
    rw [← hparts] at k
    generalize tripsOf inv sides pts = ts at *
    dsimp only
    (refine seq_step ?_; simp! only [])
    refine ⟨by decide, fun t ht => ?_⟩
    have tp : t ≠ p := fun e => by rw [e, m1] at ht; cases ht
    refine seq_step ?_
    simp! only []
    have m2 : mset μ1 t (.lst []) p = some (.lst (ts.map encP3)) := by rw [mset_ne (Ne.symm tp)]; exact m1
    refine sorts_P3 (walkL_own m2) (by omega) ?_
    simp! only []
    let S := ts.mergeSort (TotLt.le lt3)
    have hS : S.length ≤ 63 := by show (List.mergeSort _ _).length ≤ 63; rw [List.length_mergeSort]; exact hlen
    have gsucc : ∀ i z, S[i]? = some z → group (S.take (i + 1)) = groupStep (group (S.take i)) z := fun i z e => by
      rw [List.take_succ, e]
      unfold group
      rw [List.foldl_append]; rfl
    refine forD_inv (fun i δ μ' => ∃ x4 x5 x6 x10 qs, δ = [some (lotI K n pts), some (blockI K m rows sides inv), some (.lst (sides.map .int)), some (.own p), x4, x5, x6, none, none, some (.own t), x10] ∧ μ' p = some (.lst (ts.map encP3)) ∧ TP μ μ' p t (group (S.take i)) qs ∧ (group (S.take i)).length ≤ i ∧ ∀ g ∈ group (S.take i), g.2.length ≤ i) 0
      ⟨x4, x5, x6, none, [], rfl, m2, ⟨rfl, mset_same, fun i g q h => by simp [group] at h, by simp, by simpa using Ne.symm tp, fun q hq' => by rw [List.mem_singleton.mp hq', ← f1 t tp]; exact ht, fun b b1 b2 => by
        rw [mset_ne fun e => b2 (by rw [e]; simp)]; exact f1 b b1⟩, by simp [group], by simp [group]⟩ (fun _ _ _ _ => trivial) ?_ ?_
    · rintro i x δ μ2 hx' ⟨x4, x5, x6, x10, qs, rfl, m3, F, gl, gpl⟩ nx hnx
      rw [Nat.zero_add] at F gl gpl hnx
      rw [List.getElem?_map, Option.map_eq_some_iff] at hx'
      obtain ⟨z, hz, rfl⟩ := hx'
      have hi : i < S.length := (List.getElem?_eq_some_iff.mp hz).1
      rw [gsucc i z hz] at hnx
      unfold encP3
      have hml : (List.zipWith encQ (group (S.take i)) qs).length ≤ lim := by rw [List.length_zipWith]; show _ ≤ 100000; omega
      have hp2 : μ2 p ≠ none := by rw [m3]; simp
      -- a new group
      have fresh : ∀ x6 x10 x4', (∀ g ∈ group (S.take i) ++ [(z.1, [z.2.2])], g.2.length ≤ i + 1) → groupStep (group (S.take i)) z = group (S.take i) ++ [(z.1, [z.2.2])] → x6 = some (tI z.1) → x4' = some (tI z.2.2) →
          t_parts_r1 K { nx := nx, rt := fgt P, bk := wRet (wVar 9) { nx := fun x μ' => fgt P D.non μ', rt := fgt P }, ct := nx } [some (lotI K n pts), some (blockI K m rows sides inv), some (.lst (sides.map .int)), some (.own p), x4', x5, x6, none, none, some (.own t), x10] μ2 := by
        rintro x6 x10 x4' hgl hstep rfl rfl
        unfold t_parts_r1
        simp! only []
        refine ⟨(tyD_own F.at_).mpr rfl, by decide, fun q hq' => ?_⟩
        have tq : t ≠ q := fun e => by rw [← e, F.at_] at hq'; cases hq'
        have e3 : mset μ2 q (.lst [tI z.2.2]) t = some (.lst (List.zipWith encQ (group (S.take i)) qs)) := by rw [mset_ne tq]; exact F.at_
        have F2 := F.fresh (h := z.1) (x := z.2.2) hp2 hq'
        refine ⟨by decide, _, e3, hml, hnx _ _ ⟨_, _, _, _, qs ++ [q], rfl, ?_, ?_, ?_, ?_⟩⟩
        · obtain ⟨h1, h2, h3⟩ := F.nof hp2 hq'
          rw [mset_ne (fun e => F.np (by rw [e]; exact List.mem_cons_self)), mset_ne (Ne.symm h1)]; exact m3
        · rw [hstep]; exact F2
        · rw [hstep, List.length_append]; simp; omega
        · rw [hstep]; exact hgl
      simp! only []
      rcases List.eq_nil_or_concat (group (S.take i)) with eg | ⟨gs, g, eg⟩
      · have eqs : qs = [] := List.length_eq_zero_iff.mp (by rw [F.len, eg]; rfl)
        have e0 : μ2 t = some (.lst []) := by have := F.at_; rw [eg, eqs] at this; exact this
        refine ⟨false, (truD_own e0).mpr rfl, ?_⟩
        rw [if_neg Bool.false_ne_true]
        exact fresh _ _ _ (fun g hg => by rw [eg] at hg; simp at hg; rw [hg]; simp) (by rw [eg]; exact groupStep_nil) rfl rfl
      · rw [List.concat_eq_append] at eg
        obtain ⟨h, ps⟩ := g
        obtain ⟨qs', q, eq⟩ : ∃ qs' q, qs = qs' ++ [q] := by
          rcases List.eq_nil_or_concat qs with e | ⟨l, q, e⟩
          · have := F.len; rw [e, eg] at this; simp at this
          · exact ⟨l, q, by rw [e, List.concat_eq_append]⟩
        subst eq
        have F2 := F
        rw [eg] at F2
        have hl : qs'.length = gs.length := by have := F2.len; simpa using this
        have e0 : μ2 t = some (.lst (List.zipWith encQ gs qs' ++ [encQ (h, ps) q])) := by
          have := F2.at_
          rw [List.zipWith_append hl.symm] at this
          exact this
        have el := atI_last (xs := List.zipWith encQ gs qs') (x := encQ (h, ps) q)
        refine ⟨true, (truD_own e0).mpr (by simp), ?_⟩
        rw [if_pos rfl, itemD_own e0, el]
        refine ⟨_, rfl, ?_⟩
        unfold encQ
        refine ⟨tI h, at2_0, pyT h, pyT z.1, toPy_tI h, toPy_tI z.1, shaped_T h, shaped_T z.1, _, rfl, ?_⟩
        rw [eqv_T]
        by_cases hz1 : h = z.1
        · rw [if_pos (by simpa using hz1), itemD_own e0, el]
          have eq := F2.each gs.length (h, ps) q (by simp) (by rw [← hl]; simp)
          have hpl : ps.length ≤ i := gpl (h, ps) (by rw [eg]; simp)
          have F3 := F2.more (x := z.2.2)
          have hstep : groupStep (group (S.take i)) z = gs ++ [(h, ps ++ [z.2.2])] := by rw [eg, groupStep_snoc, if_pos hz1]
          refine ⟨_, rfl, .own q, at2_1, (tyD_own eq).mpr rfl, q, rfl, _, eq, by rw [List.length_map]; show ps.length ≤ 100000; omega, hnx _ _ ⟨_, _, _, _, qs' ++ [q], rfl, ?_, ?_, ?_, fun g hg => ?_⟩⟩
          · rw [mset_ne (fun e => F.np (by rw [e]; simp))]; exact m3
          · rw [hstep, ← tI_snoc]; exact F3
          · rw [hstep]; rw [eg] at gl; simp at gl ⊢; omega
          · rw [hstep] at hg
            rcases List.mem_append.mp hg with y | y
            · have := gpl g (by rw [eg]; exact List.mem_append_left _ y); omega
            · rw [List.mem_singleton.mp y]; simp; omega
        · rw [if_neg (by simpa using hz1)]
          refine fresh _ _ _ (fun g hg => ?_) (by rw [eg, groupStep_snoc, if_neg hz1]) rfl rfl
          rcases List.mem_append.mp hg with y | y
          · have := gpl g y; omega
          · rw [List.mem_singleton.mp y]; simp
    · rintro δ μ2 ⟨x4, x5, x6, x10, qs, rfl, m3, F, _, _⟩
      have hlen1 : 0 + (S.map encP3).length = S.length := by simp
      rw [hlen1, List.take_length] at F
      simp! only []
      refine ⟨mdel μ2 p, Forget.del, k t qs _ ⟨⟨?_, F.len, fun i g q h1 h2 => ?_⟩, F.nd, F.new, fun b hb => ?_⟩⟩
      · rw [mdel_ne tp]; exact F.at_
      · rw [mdel_ne fun e => F.np (by rw [← e]; exact List.mem_cons_of_mem _ (List.mem_of_getElem? h2))]
        exact F.each i g q h1 h2
      · by_cases e : b = p
        · rw [e, mdel_same, hp']
        · rw [mdel_ne e]; exact F.old b e hb
end K80
/-! V36 -/
namespace K80
open PySem PySem.Spec PyProof.Rows L2 L3 PySem.W
structure SeqOk (μ : Mu) (d : D) (T : String) (ds : List D) : Prop where
  ty : tyName μ d = some T
  walk : walkD μ d = some ds
  len : lenD μ d = some ds.length
  nn : isNonD d = false
  chk : chkD d ds μ
theorem deep_list {μ : Mu} {n : Nat} {d : D} {ps : List PyData} (h : Deep μ n d (.list ps)) : ∃ m ds, n = m + 1 ∧ SeqOk μ d "list" ds ∧ ds.length = ps.length ∧ ds.length ≤ 1000 ∧ ∀ (i : Nat) d p, ds[i]? = some d → ps[i]? = some p → Deep μ m d p := by
  cases h with
  | lst hl hz h => exact ⟨_, _, rfl, ⟨rfl, rfl, rfl, rfl, trivial⟩, hl, hz, h⟩
  | own e hl hz h => exact ⟨_, _, rfl, ⟨by simp only [tyName, e], walkD_own e, lenD_own e, rfl, e⟩, hl, hz, h⟩
theorem deep_tup {μ : Mu} {n : Nat} {d : D} {ps : List PyData} (h : Deep μ n d (.tuple ps)) : ∃ m ds, n = m + 1 ∧ SeqOk μ d "tuple" ds ∧ ds.length = ps.length ∧ ds.length ≤ 1000 ∧ ∀ (i : Nat) d p, ds[i]? = some d → ps[i]? = some p → Deep μ m d p := by
  cases h with
  | tup hl hz h => exact ⟨_, _, rfl, ⟨rfl, rfl, rfl, rfl, trivial⟩, hl, hz, h⟩
theorem kit_list : "list" ∈ kits := by decide
theorem kit_tuple : "tuple" ∈ kits := by decide
theorem kit_dict : "dict" ∈ kits := by decide
theorem kit_bool : "bool" ∈ kits := by decide
theorem kit_int : "int" ∈ kits := by decide
theorem kit_str : "str" ∈ kits := by decide
theorem py_bls (bs : List Bool) : toPyL (bs.map D.bl) = some (bs.map PyData.bool) := by
  induction bs with
  | nil => rfl
  | cons b bs ih => simp only [List.map_cons, toPyL, toPy, ih]
theorem shaped_bls (bs : List Bool) : SeqAt.shaped (.list (bs.map PyData.bool)) = true := by
  have h1 : ∀ bs : List Bool, PyData.canLayAll0 (bs.map PyData.bool) = true := fun bs => by
    induction bs with
    | nil => rfl
    | cons x l ih => rw [List.map_cons, PyData.canLayAll0, ih]; rfl
  have h2 : ∀ bs : List Bool, PyData.depthAll (bs.map PyData.bool) ≤ 1 := fun bs => by
    induction bs with
    | nil => simp [PyData.depthAll]
    | cons x l ih => simp only [List.map_cons, PyData.depthAll, PyData.depth]; omega
  unfold SeqAt.shaped
  rw [Bool.and_eq_true]
  refine ⟨by rw [PyData.canLay0]; exact h1 bs, ?_⟩
  have := h2 bs
  have e : (PyData.list (bs.map PyData.bool)).depth = PyData.depthAll (bs.map PyData.bool) + 1 ∨ (PyData.list (bs.map PyData.bool)).depth ≤ PyData.depthAll (bs.map PyData.bool) + 1 := by
    rw [PyData.depth]; omega
  rw [decide_eq_true_eq]
  omega
theorem eqv_bls (bs : List Bool) : PyData.eqv (.list (bs.map PyData.bool)) (.list (bs.map PyData.bool)) = true := by
  have h1 : ∀ bs : List Bool, PyData.eqvAll (bs.map PyData.bool) (bs.map PyData.bool) = true := fun bs => by
    induction bs with
    | nil => rfl
    | cons x l ih => rw [List.map_cons, PyData.eqvAll, ih]; simp [PyData.eqv]
  rw [PyData.eqv]
  exact h1 bs
theorem ne_bls {μ : Mu} {bs : List Bool} {P : D → Mu → Prop} (p : P (.bl false) μ) : gNeD (.lst (bs.map D.bl)) (.lst (bs.map D.bl)) μ P := by
  have e : toPyM μ (.lst (bs.map D.bl)) = some (.list (bs.map PyData.bool)) := by
    show toPy (.lst _) = _
    simp only [toPy, py_bls, Option.map_some]
  refine ⟨_, _, e, e, shaped_bls bs, shaped_bls bs, ?_⟩
  rw [eqv_bls]
  exact p
/-- two sequences of one kind -/
theorem same_seq {K : PySem.W.Frag} {μ : Mu} {n : Nat} {f d : D} {T : String} {fs ds : List D} {ps : List PyData} {P : D → Mu → Prop} (hT : T = "list" ∨ T = "tuple") (F : SeqOk μ f T fs) (E : SeqOk μ d T ds) (fl : fs.length = ps.length) (dl : ds.length = ps.length) (hz : ds.length ≤ 1000)
    (hf : ∀ (i : Nat) d p, fs[i]? = some d → ps[i]? = some p → Deep μ n d p) (hd : ∀ (i : Nat) d p, ds[i]? = some d → ps[i]? = some p → Deep μ n d p) (p : P (.bl true) μ) :
    t__law_same K (spSame (n + 1)) { nx := fun _ μ' => P .non μ', rt := P } [some f, some d, none, none] μ := by
  have k1 : isD T "dict" = false := by rcases hT with h | h <;> subst h <;> decide
  have k2 : (isD T "list" || isD T "tuple") = true := by rcases hT with h | h <;> subst h <;> decide
  unfold t__law_same
  refine seq_step ?_
  simp only [wIfS, wOr, wTest, wOp, gIs, wVar, wC, List.getElem?_cons_zero, List.getElem?_cons_succ, Option.some.injEq, exists_eq_left', true_and, D.bl.injEq, F.nn, E.nn, Bool.false_eq_true, if_false, wNext]
  (refine seq_step ?_; simp! only [E.ty, kit_dict, k1])
  refine seq_step ?_
  simp! only [E.ty, kit_list, kit_tuple, k2]
  refine ⟨by decide, d, "list", "tuple", T, rfl, E.ty, kit_list, kit_tuple, _, rfl, ?_⟩
  rw [if_pos k2]
  refine seq_step ?_
  simp! only [E.ty, F.ty, kit_list, kit_tuple]
  refine ⟨by decide, by decide, ne_bls (bs := [isD T "list", isD T "tuple"]) ⟨false, rfl, ?_⟩⟩
  rw [if_neg Bool.false_ne_true]
  unfold t__law_same_r2
  simp! only [F.len, E.len]
  have fd : fs.length = ds.length := by omega
  rw [fd]
  rw [if_pos (by simp)]
  refine ⟨fs, F.walk, ds, E.walk, ?_⟩
  have ez : List.zipWith L3.pairD fs ds = (fs.zip ds).map fun p => D.tup [p.1, p.2] := by rw [List.zip_eq_zipWith, List.map_zipWith]; rfl
  rw [ez]
  refine ⟨by rw [List.length_map, List.length_zip]; show _ ≤ 100000; omega, lcD_of _ (fun _ => .bl true) ⟨F.chk, E.chk⟩ (fun z hz Ry Rn h1 h2 => ?_) ?_⟩
  · obtain ⟨i, hi, ei⟩ := List.getElem_of_mem hz
    rw [List.getElem_zip] at ei
    have hi1 : i < fs.length := by rw [List.length_zip] at hi; omega
    have hi2 : i < ds.length := by rw [List.length_zip] at hi; omega
    have hi3 : i < ps.length := by omega
    have e1 : fs[i] = z.1 := congrArg Prod.fst ei
    have e2 : ds[i] = z.2 := congrArg Prod.snd ei
    simp! only []
    exact ⟨z.1, z.2, ps[i], rfl, hf i _ _ (by rw [List.getElem?_eq_getElem hi1, e1]) (List.getElem?_eq_getElem hi3), hd i _ _ (by rw [List.getElem?_eq_getElem hi2, e2]) (List.getElem?_eq_getElem hi3), h1 _ rfl⟩
  · refine ⟨(fs.zip ds).map fun _ => true, by rw [List.nil_append, walkL_lst, List.map_map]; rfl, ?_⟩
    rw [all_id]
    exact p
/-- two atoms of one kind -/
theorem same_atom {K : PySem.W.Frag} {μ : Mu} {spr : SpD} {d : D} {T : String} {P : D → Mu → Prop} (hT : T = "bool" ∨ T = "int" ∨ T = "str") (hn : isNonD d = false) (ht : tyName μ d = some T) (he : eqS d d = some true) (p : P (.bl true) μ) :
    t__law_same K spr { nx := fun _ μ' => P .non μ', rt := P } [some d, some d, none, none] μ := by
  have k1 : isD T "dict" = false := by rcases hT with h | h | h <;> subst h <;> decide
  have k2 : ¬ (isD T "list" || isD T "tuple") = true := by rcases hT with h | h | h <;> subst h <;> decide
  unfold t__law_same
  refine seq_step ?_
  simp only [wIfS, wOr, wTest, wOp, gIs, wVar, wC, List.getElem?_cons_zero, List.getElem?_cons_succ, Option.some.injEq, exists_eq_left', true_and, D.bl.injEq, hn, Bool.false_eq_true, if_false, wNext]
  (refine seq_step ?_; simp! only [ht, kit_dict, k1])
  refine seq_step ?_
  simp! only [ht, kit_list, kit_tuple]
  refine ⟨by decide, d, "list", "tuple", T, rfl, ht, kit_list, kit_tuple, _, rfl, ?_⟩
  rw [if_neg k2]
  refine seq_step ?_
  simp! only [ht, kit_bool, kit_int, kit_str]
  refine ⟨by decide, by decide, ne_bls (bs := [isD T "bool", isD T "int", isD T "str"]) ⟨false, rfl, ?_⟩⟩
  rw [if_neg Bool.false_ne_true]
  unfold t__law_same_r1
  simp only [wRet, wOp, wVar, gEq, List.getElem?_cons_zero, List.getElem?_cons_succ, Option.some.injEq, exists_eq_left', he]
  exact p
theorem vc__law_same {K : PySem.W.Frag} (n : Nat) : ∀ ds μ P, spSame (n + 1) ds μ P → t__law_same K (spSame n) { nx := fun _ μ' => P .non μ', rt := P } (startD N__law_same.length ds) μ := by
  rintro ds μ P ⟨f, d, p, rfl, hf, hd, q⟩
  cases p with
  | none =>
    cases hf
    cases hd
    unfold t__law_same
    refine seq_step ?_
    simp! only []
    exact q
  | bool b =>
    cases hf
    cases hd
    exact same_atom (T := "bool") (by simp) rfl rfl (by simp [eqS]) q
  | int i =>
    cases hf
    cases hd
    exact same_atom (T := "int") (by simp) rfl rfl (by simp [eqS]) q
  | str s =>
    cases hf
    cases hd
    exact same_atom (T := "str") (by simp) rfl rfl (by simp [eqS]) q
  | list ps =>
    obtain ⟨m, fs, rfl, F, fl, _, hf'⟩ := deep_list hf
    obtain ⟨m2, ds, e, E, dl, dz, hd'⟩ := deep_list hd
    cases e
    exact same_seq (.inl rfl) F E fl dl dz hf' hd' q
  | tuple ps =>
    obtain ⟨m, fs, rfl, F, fl, _, hf'⟩ := deep_tup hf
    obtain ⟨m2, ds, e, E, dl, dz, hd'⟩ := deep_tup hd
    cases e
    exact same_seq (.inr rfl) F E fl dl dz hf' hd' q
  | _ => cases hf
end K80
/-! V37 -/
namespace K80
open PySem PySem.Spec PyProof.Rows L2 L3 PySem.W
theorem deep_tI {μ : Mu} {n : Nat} {l : List Int} (h : l.length ≤ 1000) : Deep μ (n + 1) (tI l) (pyT l) := by
  refine .tup (by rw [List.length_map, List.length_map]) (by rw [List.length_map]; exact h) fun i d p h1 h2 => ?_
  rw [List.getElem?_map, Option.map_eq_some_iff] at h1 h2
  obtain ⟨x, e1, rfl⟩ := h1
  obtain ⟨y, e2, rfl⟩ := h2
  rw [e1] at e2
  cases e2
  exact .int x
theorem deep_two {μ : Mu} {n : Nat} {a b : D} {p q : PyData} (h1 : Deep μ n a p) (h2 : Deep μ n b q) : Deep μ (n + 1) (.lst [a, b]) (.list [p, q]) := by
  refine .lst rfl (by show 2 ≤ 1000; decide) fun i d r e1 e2 => ?_
  match i with
  | 0 => cases e1; cases e2; exact h1
  | 1 => cases e1; cases e2; exact h2
  | i + 2 => simp at e1
theorem vc__law_places_told {K : PySem.W.Frag} : ∀ ds μ P, sp__law_places_told K ds μ P → t__law_places_told K { nx := fun _ μ' => P .non μ', rt := P } (startD N__law_places_told.length ds) μ := by
  rintro ds μ P ⟨deep, n, rows, sides, inv, gs, rfl, hn, h4, hq, hs, hg, hpt, p⟩
  unfold t__law_places_told
  (refine seq_step ?_; simp! only [])
  refine forD_inv (fun i δ μ' => (∃ x3 x4 x5, δ = [some (blockI K n rows sides inv), some (.lst (gs.map encG)), some (.lst (inv.map lI)), x3, x4, x5]) ∧ μ' = μ) 0 ⟨⟨none, none, none, rfl⟩, rfl⟩ (fun _ _ _ _ => trivial) ?_ ?_
  · rintro i x δ μ1 hx ⟨⟨x3, x4, x5, rfl⟩, rfl⟩ nx hnx
    rw [List.getElem?_map, Option.map_eq_some_iff] at hx
    obtain ⟨g, hg1, rfl⟩ := hx
    obtain ⟨gl, gp⟩ := hpt g (List.mem_of_getElem? hg1)
    unfold encG
    simp! only []
    refine forD_inv (fun i δ μ' => (∃ x5, δ = [some (blockI K n rows sides inv), some (.lst (gs.map encG)), some (.lst (inv.map lI)), some (tI g.1), some (.lst (g.2.map tI)), x5]) ∧ μ' = μ1) 0 ⟨⟨x5, rfl⟩, rfl⟩ (fun _ _ _ _ => trivial) ?_ ?_
    · rintro j y δ μ2 hy ⟨⟨x5, rfl⟩, rfl⟩ nx' hnx'
      rw [List.getElem?_map, Option.map_eq_some_iff] at hy
      obtain ⟨x, hx1, rfl⟩ := hy
      obtain ⟨po, eh⟩ := gp x (List.mem_of_getElem? hx1)
      have pl := place_len (x := x) hq
      have hl := home_len (x := x) hq hs
      simp! only []
      refine ⟨_, rfl, rfl, deep, n, rows, sides, inv, x, rfl, hn, h4, hq, hs, po, ?_⟩
      simp! only []
      refine ⟨_, rfl, rfl, deep, n, rows, sides, inv, x, rfl, hn, h4, hq, po, ?_⟩
      simp! only []
      refine ⟨by decide, deep, inv, x, rfl, h4, hq, po, ?_⟩
      simp! only []
      refine ⟨by decide, _, _, _, rfl, deep_two (deep_tI (n := 4) (by omega)) (deep_tI (n := 4) (by omega)), ?_, true, .bl true, ?_⟩
      · rw [eh]; exact deep_two (deep_tI (n := 4) (by rw [← eh]; omega)) (deep_tI (n := 4) (by omega))
      · rw [if_neg (by simp)]
        exact hnx' _ _ ⟨⟨_, rfl⟩, rfl⟩
    · rintro δ μ2 ⟨⟨x5, rfl⟩, rfl⟩
      exact hnx _ _ ⟨⟨_, _, _, rfl⟩, rfl⟩
  · rintro δ μ1 ⟨⟨x3, x4, x5, rfl⟩, rfl⟩
    simp! only []
    exact p
end K80
/-! V38 -/
namespace K80
open PySem PySem.Spec PyProof.Rows L2 L3 PySem.W
abbrev cs (s : Str) : List Nat := s.cps.toList
theorem cs_join (y : Str) : ∀ l : List Str, cs (Txt.join y l) = match l with | [] => [] | x :: r => cs x ++ r.flatMap fun z => cs y ++ cs z := by
  intro l
  unfold cs
  rw [TL.join_eq]
  induction l with
  | nil => rfl
  | cons x l ih =>
    cases l with
    | nil => show x.cps.toList = _; simp
    | cons z r =>
      show (x ++ y ++ Str.join y (z :: r)).cps.toList = _
      rw [cps_add, cps_add, ih]
      simp only [List.flatMap_cons, List.append_assoc]
theorem cs_join0 (l : List Str) : cs (Txt.join "" l) = l.flatMap cs := by
  rw [cs_join]
  cases l with
  | nil => rfl
  | cons x r =>
    rw [List.flatMap_cons]
    congr 1
theorem cs_nl (s : Str) : cs (s ++ "\n") = cs s ++ [10] := by unfold cs; rw [cps_add]; rfl
theorem cs_nest (n : NestT) : cs (nestTxt n) = (nestLines n).flatMap fun l => cs l ++ [10] := by
  unfold nestTxt
  rw [cs_join0, List.flatMap_map]
  exact flatMap_cg fun l _ => cs_nl l
theorem lines_codes (n : NestT) : cs (nestTxt n) = (cs "nest" ++ [10]) ++ (cs ("for " ++ Txt.join " " n.1) ++ [10]) ++ (n.2.flatMap fun t => cs (touchTxt n.1 t) ++ [10]) ++ (cs "done" ++ [10]) := by
  rw [cs_nest]
  unfold nestLines
  rw [List.flatMap_append, List.flatMap_append, List.flatMap_map]
  simp only [List.flatMap_cons, List.flatMap_nil, List.append_nil, List.append_assoc]
/-- one touch more -/
theorem other0 (names : List Str) (ts : List TouchT) (t : TouchT) : nestTxt (names, ts ++ [t]) ≠ nestTxt (names, ts) := fun e => by
  have := congrArg (fun s => (cs s).length) e
  rw [lines_codes, lines_codes] at this
  simp only [List.flatMap_append, List.length_append, List.flatMap_cons, List.flatMap_nil, List.length_nil, List.length_cons] at this
  omega
theorem split10 {a b r s : List Nat} (ha : 10 ∉ a) (hb : 10 ∉ b) (e : a ++ 10 :: r = b ++ 10 :: s) : a = b := by
  induction a generalizing b with
  | nil =>
    cases b with
    | nil => rfl
    | cons y b => simp at e; exact absurd e.1.symm (fun z => hb (by rw [z]; exact List.mem_cons_self))
  | cons x a ih =>
    cases b with
    | nil => simp at e; exact absurd e.1 (fun z => ha (by rw [z]; exact List.mem_cons_self))
    | cons y b =>
      simp at e
      rw [e.1, ih (fun z => ha (List.mem_cons_of_mem _ z)) (fun z => hb (List.mem_cons_of_mem _ z)) e.2]
theorem word_no10 {s : Str} (h : CtrOk s) : 10 ∉ cs s := by
  obtain ⟨c, l, e, hc, hl, _⟩ := h.w.ex
  unfold cs
  rw [e]
  intro z
  rcases List.mem_cons.mp z with q | q
  · unfold isLow at hc; omega
  · rcases hl 10 q with y | y
    · unfold isLow at y; omega
    · unfold isDig at y; omega
theorem str_cs {s t : Str} (h : cs s = cs t) : s = t := str_ext h
/-- another last name -/
theorem other2 {names : List Str} {a b : Str} {ts : List TouchT} (ha : CtrOk a) (hb : CtrOk b) (hne : b ≠ a) : nestTxt (names ++ [b], ts) ≠ nestTxt (names ++ [a], ts) := fun e => by
  have := congrArg cs e
  rw [lines_codes, lines_codes] at this
  have j : ∀ x : Str, ∃ p, (∀ z : Str, cs ("for " ++ Txt.join " " (names ++ [z])) = p ++ cs z) := fun x => by
    cases names with
    | nil =>
      refine ⟨cs "for ", fun z => ?_⟩
      show (("for " : Str) ++ Txt.join " " [z]).cps.toList = _
      rw [cps_add]
      congr 1
    | cons y r =>
      refine ⟨cs "for " ++ (cs y ++ (r.flatMap fun z => cs " " ++ cs z) ++ cs " "), fun z => ?_⟩
      show (("for " : Str) ++ Txt.join " " (y :: (r ++ [z]))).cps.toList = _
      rw [cps_add]
      have := cs_join " " (y :: (r ++ [z]))
      unfold cs at this ⊢
      rw [this]
      simp only [List.flatMap_append, List.flatMap_cons, List.flatMap_nil, List.append_nil, List.append_assoc]
  obtain ⟨p, hp⟩ := j a
  dsimp only at this
  rw [hp a, hp b] at this
  simp only [List.append_assoc, List.append_cancel_left_eq, List.cons_append, List.nil_append, List.cons.injEq, true_and] at this
  exact hne (str_cs (split10 (word_no10 hb) (word_no10 ha) this))
/-- what stands behind the words of a row -/
def tailT (o : Int) : List Nat := (offW o).flatMap fun z => cs " " ++ cs z
def aloneT (o : Int) : Str := match offW o with
  | [] => "0"
  | w :: ws => if w = "+" then Txt.join " " ws else Txt.join " " (w :: ws)
theorem tail_ne : ∀ o ∈ offs, tailT o ≠ tailT (o + 1) := by decide +kernel
theorem alone_ne : ∀ o ∈ offs, aloneT o ≠ aloneT (o + 1) := by decide +kernel
theorem sub_tail {names : List Str} {r : List Int} (h : rowW names r ≠ []) (h2 : ∀ w ws, rowW names r = w :: ws → w = "+" → ws ≠ []) : ∃ p, ∀ o, cs (subTxt names (r, o)) = p ++ tailT o := by
  cases e : rowW names r with
  | nil => exact absurd e h
  | cons w ws =>
    by_cases hw : w = "+"
    · have hne := h2 w ws e hw
      cases ws with
      | nil => exact absurd rfl hne
      | cons x xs =>
        refine ⟨cs x ++ xs.flatMap fun z => cs " " ++ cs z, fun o => ?_⟩
        have : subTxt names (r, o) = Txt.join " " (x :: (xs ++ offW o)) := by
          unfold subTxt subW
          show (match rowW names r ++ offW o with | [] => _ | w :: ws => _) = _
          rw [e]
          show (if w = "+" then _ else _) = _
          rw [if_pos hw]; rfl
        rw [this, cs_join]
        unfold tailT
        simp only [List.flatMap_append, List.append_assoc]
    · refine ⟨cs w ++ ws.flatMap fun z => cs " " ++ cs z, fun o => ?_⟩
      have : subTxt names (r, o) = Txt.join " " (w :: (ws ++ offW o)) := by
        unfold subTxt subW
        show (match rowW names r ++ offW o with | [] => _ | w :: ws => _) = _
        rw [e]
        show (if w = "+" then _ else _) = _
        rw [if_neg hw]; rfl
      rw [this, cs_join]
      unfold tailT
      simp only [List.flatMap_append, List.append_assoc]
theorem rowW_two {names : List Str} {r : List Int} : ∀ w ws, rowW names r = w :: ws → ws ≠ [] := fun w ws e z => by
  subst z
  have : (rowW names r).length % 2 = 0 := by
    unfold rowW
    generalize names.zip r = l
    induction l with
    | nil => rfl
    | cons p l ih =>
      rw [List.flatMap_cons, List.length_append]
      have : (termW p.1 p.2).length = 0 ∨ (termW p.1 p.2).length = 2 := by unfold termW; split <;> simp
      omega
  rw [e] at this
  simp at this
theorem sub_ne {names : List Str} {r : List Int} {o : Int} (ho : o ∈ offs) : subTxt names (r, o + 1) ≠ subTxt names (r, o) := fun e => by
  by_cases h : rowW names r = []
  · have : ∀ o, subTxt names (r, o) = aloneT o := fun o => by
      unfold subTxt subW aloneT
      show (match rowW names r ++ offW o with | [] => _ | w :: ws => _) = _
      rw [h]; rfl
    rw [this, this] at e
    exact alone_ne o ho e.symm
  · obtain ⟨p, hp⟩ := sub_tail h fun w ws e _ => rowW_two w ws e
    have := congrArg cs e
    rw [hp, hp] at this
    exact tail_ne o ho (List.append_cancel_left this).symm
/-- another offset -/
theorem other1 {names : List Str} {ts : List TouchT} {nm : Str} {s : SubT} {ss : List SubT} (ho : s.2 ∈ offs) : nestTxt (names, ts ++ [(nm, (s.1, s.2 + 1) :: ss)]) ≠ nestTxt (names, ts ++ [(nm, s :: ss)]) := fun e => by
  have := congrArg cs e
  rw [lines_codes, lines_codes] at this
  simp only [List.flatMap_append, List.flatMap_cons, List.flatMap_nil, List.append_nil, List.append_assoc, List.append_cancel_left_eq] at this
  have h2 := List.append_cancel_right this
  have ht : ∀ s : SubT, ∃ q, cs (touchTxt names (nm, s :: ss)) = cs ("touch " ++ nm ++ " : ") ++ (cs (subTxt names s) ++ q) ∧ q = (ss.map (subTxt names)).flatMap fun z => cs " , " ++ cs z := fun s => by
    refine ⟨_, ?_, rfl⟩
    unfold touchTxt
    rw [if_neg (by simp)]
    show (("touch " : Str) ++ nm ++ " : " ++ Txt.join " , " _).cps.toList = _
    rw [cps_add]
    have := cs_join " , " ((s :: ss).map (subTxt names))
    unfold cs at this ⊢
    rw [this]
    rfl
  obtain ⟨q1, e1, r1⟩ := ht s
  obtain ⟨q2, e2, r2⟩ := ht (s.1, s.2 + 1)
  rw [e1, e2, r1, r2] at h2
  have h3 := List.append_cancel_right (List.append_cancel_left h2)
  exact sub_ne (names := names) (r := s.1) ho (str_cs h3)

theorem five_ok : ∀ s ∈ (["x", "u0", "y", "w", "v"] : List Str), CtrOk s := by
  have h1 : ∀ s ∈ (["x", "u0", "y", "w", "v"] : List Str), s ∉ kept := by decide +kernel
  intro s hs
  refine ⟨?_, h1 s hs⟩
  have h2 : ∀ s ∈ (["x", "u0", "y", "w", "v"] : List Str), (match s.cps.toList with | [] => false | c :: l => decide (97 ≤ c ∧ c ≤ 122) && (l.all fun x => decide ((97 ≤ x ∧ x ≤ 122) ∨ (48 ≤ x ∧ x ≤ 57))) && decide (l.length < 6)) = true := by decide +kernel
  have h := h2 s hs
  cases e : s.cps.toList with
  | nil => rw [e] at h; cases h
  | cons c l =>
    rw [e] at h
    simp only [Bool.and_eq_true, decide_eq_true_eq, List.all_eq_true] at h
    exact ⟨c, l, e, h.1.1, h.1.2, h.2⟩
theorem five_nd : (["x", "u0", "y", "w", "v"] : List Str).Nodup := by decide +kernel
theorem TouchOk.good {deep : Nat} {t : TouchT} (h : TouchOk deep t) : TGood deep t := ⟨h.nm, by have := h.few; omega, fun s hs => by
  have r := h.row s hs
  have o := h.off s hs
  refine ⟨r.len, fun x hx => ?_, ?_⟩
  · have := r.lo x hx
    have := r.hi x hx
    unfold smallI; omega
  · unfold offs at o
    simp at o
    unfold smallI; omega⟩
theorem NestOk.good {deep wide : Nat} {n : NestT} (h : NestOk deep wide n) (h0 : 0 < deep) (h4 : deep ≤ 4) (w0 : 0 < wide) (w4 : wide ≤ 4) : NGood deep n :=
  ⟨h.ctrs, h0, by omega, ⟨fun e => by have := h.tchs.len; rw [e] at this; simp at this; omega, by have := h.tchs.len; omega, fun t ht => (h.tchs.ok t ht).good, h.tchs.same⟩⟩
theorem cut_init' {α β : Type} (f : α → β) (xs : List α) (x : α) : L3.cutD ((xs ++ [x]).map f) none (some (-1)) = xs.map f := by
  rw [List.map_append, List.map_cons, List.map_nil, L3.cut_init]
theorem vc__law_other {K : PySem.W.Frag} : ∀ ds μ P, sp__law_other K ds μ P → t__law_other K { nx := fun _ μ' => P .non μ', rt := P } (startD N__law_other.length ds) μ := by
  rintro ds μ P ⟨a, deep, wide, ⟨names, ts⟩, rfl, hb, hn, h0, h4, w0, w4, k⟩
  have hl := hn.ctrs.len
  have tl := hn.tchs.len
  have ng := hn.good h0 h4 w0 w4
  dsimp only at hl tl
  obtain ⟨ts', tz, rfl⟩ : ∃ l x, ts = l ++ [x] := by
    rcases List.eq_nil_or_concat ts with e | ⟨l, x, e⟩
    · rw [e] at tl; simp at tl; omega
    · exact ⟨l, x, by rw [e, List.concat_eq_append]⟩
  obtain ⟨ns', nz, rfl⟩ : ∃ l x, names = l ++ [x] := by
    rcases List.eq_nil_or_concat names with e | ⟨l, x, e⟩
    · rw [e] at hl; simp at hl; omega
    · exact ⟨l, x, by rw [e, List.concat_eq_append]⟩
  have hl' : ns'.length + 1 = deep := by simpa using hl
  have tl' : ts'.length + 1 = wide := by simpa using tl
  have okz := hn.tchs.ok tz (by simp)
  unfold t__law_other encN
  refine seq_step ?_
  simp! only []
  refine draw_at hb (by omega) (by omega) fun r μ1 c1 b1 r0 r3 => ?_
  refine ⟨by decide, ?_⟩
  refine seq_step ?_
  simp! only []
  -- the third way
  have third : ∀ x5 x6, t__law_other_r1 K { nx := fun x μ' => P D.non μ', rt := P } [some (.own a), some (.tup [.lst ((ns' ++ [nz]).map .str), .lst ((ts' ++ [tz]).map encT)]), some (.int r), some (.lst ((ns' ++ [nz]).map .str)), some (.lst ((ts' ++ [tz]).map encT)), x5, x6] μ1 := fun x5 x6 => by
    unfold t__law_other_r1
    simp! only []
    rw [cut_init']
    refine ⟨by decide, by decide, ?_⟩
    show lcD (gN 6) (wTest (wOp (gIn true) (wVar 6) (wVar 3))) (wVar 6) [6] _ _ _ ((["x", "u0", "y", "w", "v"] : List Str).map D.str) [] μ1
    refine lcD_if D.str D.str (fun o => decide (o ∉ ns' ++ [nz])) trivial (fun o ho Ry Rn h1 h2 => ?_) ?_
    · simp! only [flat_strs, any_strs]
      by_cases q : o ∈ ns' ++ [nz]
      · have := h2 (if_neg (by rw [decide_eq_true_eq]; exact fun z => z q))
        refine ⟨rfl, ?_⟩
        rw [if_neg (by simp only [decide_eq_true q]; decide)]
        exact this
      · have := h1 (.str o) (if_pos (decide_eq_true q))
        refine ⟨rfl, ?_⟩
        rw [if_pos (by simp only [decide_eq_false q]; decide)]
        exact this
    · obtain ⟨s', l, e, h1, h2⟩ := first_free five_nd (names := ns' ++ [nz]) (by rw [hl]; show deep < 5; omega)
      rw [List.nil_append, e]
      have ok' := five_ok s' h1
      have okn := hn.ctrs.ok nz (by simp)
      refine ⟨.str s', L3.atI_nat (k := 0) (xs := (s' :: l).map D.str) rfl, by decide, by rw [List.length_map]; show _ ≤ 100000; omega, by decide, ?_⟩
      have := k (ns' ++ [s'], ts' ++ [tz]) μ1 ⟨⟨by simpa using hl, fun q hq => ?_, ?_⟩, h0, by omega, ng.tchs⟩ (other2 okn ok' fun z => h2 (by rw [z]; simp)) c1 b1
      · unfold encN at this
        rw [List.map_append] at this
        exact this
      · rcases List.mem_append.mp hq with y | y
        · exact hn.ctrs.ok q (List.mem_append_left _ y)
        · rw [List.mem_singleton.mp y]; exact ok'
      · have nd := hn.ctrs.nd
        dsimp only at nd
        rw [List.nodup_append] at nd ⊢
        exact ⟨nd.1, by simp, fun u hu v hv e => h2 (by rw [List.mem_singleton.mp hv] at e; rw [← e]; exact List.mem_append_left _ hu)⟩
  by_cases r0' : r = 0
  · rw [if_pos (by simpa using r0')]
    obtain ⟨t0, tr, et⟩ : ∃ t0 tr, ts' ++ [tz] = t0 :: tr := by
      cases ts' with
      | nil => exact ⟨tz, [], rfl⟩
      | cons x l => exact ⟨x, l ++ [tz], rfl⟩
    have tm : t0 ∈ ts' ++ [tz] := by rw [et]; simp
    refine ⟨encT t0, by rw [et, List.map_cons]; exact at_0, by decide, by rw [List.length_map, tl]; show _ ≤ 100000; omega, by decide, ?_⟩
    have := k (ns' ++ [nz], (ts' ++ [tz]) ++ [t0]) μ1 ⟨ng.ctrs, h0, by omega, ⟨by simp, by rw [List.length_append, tl]; simp; omega, fun t ht => ?_, fun t ht u hu e => ?_⟩⟩ (other0 _ _ _) c1 b1
    · unfold encN at this
      rw [show ((ns' ++ [nz], ts' ++ [tz] ++ [t0]) : NestT).2.map encT = (ts' ++ [tz]).map encT ++ [encT t0] from List.map_append] at this
      exact this
    · rcases List.mem_append.mp ht with y | y
      · exact ng.tchs.ok t y
      · rw [List.mem_singleton.mp y]; exact ng.tchs.ok t0 tm
    · have f : ∀ t, t ∈ (ts' ++ [tz]) ++ [t0] → t ∈ ts' ++ [tz] := fun t ht => by
        rcases List.mem_append.mp ht with y | y
        · exact y
        · rw [List.mem_singleton.mp y]; exact tm
      exact ng.tchs.same t (f t ht) u (f u hu) e
  · rw [if_neg (by simpa using r0')]
    have el : atI ((ts' ++ [tz]).map encT) (-1) = some (encT tz) := by rw [List.map_append]; exact atI_last
    have ez : ∀ μ, itemD μ (encT tz) 1 = some (.lst (tz.2.map encS)) := fun μ => at2_1
    have ez0 : ∀ μ, itemD μ (encT tz) 0 = some (.str tz.1) := fun μ => at2_0
    refine seq_step ?_
    simp! only [el, ez, ez0]
    by_cases r1' : r = 1
    · rw [if_pos (by simpa using r1')]
      cases e : tz.2 with
      | nil =>
        simp! only [List.isEmpty_nil, Bool.not_true]
        exact third _ _
      | cons s ss =>
        simp! only [List.isEmpty_cons, Bool.not_false]
        refine seq_step ?_
        simp! only [el, ez, ez0, e]
        have hs : s.2 ∈ offs := okz.off s (by rw [e]; simp)
        have hfew := okz.few
        rw [e] at hfew
        have c1' : L3.cutD (encS s :: ss.map encS) (some 1) none = ss.map encS := by
          have := L3.cut_lo (encS s :: ss.map encS) 1
          exact this
        refine ⟨_, at_0, tI s.1, at2_0, _, at_0, .int s.2, at2_1, ?_⟩
        rw [c1', cut_init']
        refine ⟨by decide, by decide, by rw [List.length_map]; show _ ≤ 100000; simp at hfew; omega, by decide, by decide, by rw [List.length_map]; show _ ≤ 100000; omega, by decide, ?_⟩
        have := k (ns' ++ [nz], ts' ++ [(tz.1, (s.1, s.2 + 1) :: ss)]) μ1 ⟨ng.ctrs, h0, by omega, ⟨by simp, by have := ng.tchs.few; simpa using this, fun t ht => ?_, fun t ht u hu e' => ?_⟩⟩ (by
          have := other1 (names := ns' ++ [nz]) (ts := ts') (nm := tz.1) (s := s) (ss := ss) hs
          rwa [show ((tz.1, s :: ss) : TouchT) = tz from Prod.ext rfl e.symm] at this) c1 b1
        · unfold encN at this
          rw [show ((ns' ++ [nz], ts' ++ [(tz.1, (s.1, s.2 + 1) :: ss)]) : NestT).2.map encT = ts'.map encT ++ [encT (tz.1, (s.1, s.2 + 1) :: ss)] from List.map_append] at this
          exact this
        · rcases List.mem_append.mp ht with y | y
          · exact ng.tchs.ok t (List.mem_append_left _ y)
          · rw [List.mem_singleton.mp y]
            have g := okz.good
            refine ⟨g.nm, by have := g.few; rw [e] at this; simpa using this, fun q hq => ?_⟩
            rcases List.mem_cons.mp hq with z | z
            · have := g.row s (by rw [e]; simp)
              rw [z]
              refine ⟨this.1, this.2.1, ?_⟩
              unfold offs at hs
              simp at hs
              unfold smallI
              dsimp only
              omega
            · exact g.row q (by rw [e]; exact List.mem_cons_of_mem _ z)
        · have f : ∀ t, t ∈ ts' ++ [(tz.1, (s.1, s.2 + 1) :: ss)] → ∃ t', t' ∈ ts' ++ [tz] ∧ t'.1 = t.1 ∧ t'.2.length = t.2.length := fun t ht => by
            rcases List.mem_append.mp ht with y | y
            · exact ⟨t, List.mem_append_left _ y, rfl, rfl⟩
            · rw [List.mem_singleton.mp y]; exact ⟨tz, by simp, rfl, by rw [e]; simp⟩
          obtain ⟨t', h1, h2, h3⟩ := f t ht
          obtain ⟨u', g1, g2, g3⟩ := f u hu
          rw [← h3, ← g3]
          exact ng.tchs.same t' h1 u' g1 (by rw [h2, g2]; exact e')
    · rw [if_neg (by simpa using r1')]
      exact third _ _
end K80
/-! VL1 -/
namespace K80
open PySem PySem.Spec PyProof.Rows L2 L3
theorem lawParts_perm {inv : List (List Int)} {sides : List Int} {pts pts' : List (List Int)} (p : pts.Perm pts') : lawParts inv sides pts = lawParts inv sides pts' := by
  have h : ∀ q : List (List Int), lawParts inv sides q = group ((tripsOf inv sides q).mergeSort (TotLt.le lt3)) := fun q => (parts_eq (homesOf_nd _) (homesOf_mem _)).symm
  rw [h, h]
  refine congrArg group (lt3_tot.uniq ((p.map _).trans (List.mergeSort_perm _ _).symm) (lt3_tot.sorted _))
theorem lawParts_mem {inv : List (List Int)} {sides : List Int} {pts : List (List Int)} {g : RowI × List RowI} (hg : g ∈ lawParts inv sides pts) : g.2 ≠ [] ∧ g.2.length ≤ pts.length ∧ ∀ x ∈ g.2, x ∈ pts ∧ homeI (placeI inv x) sides = g.1 := by
  unfold lawParts partsOf at hg
  obtain ⟨h, hh, rfl⟩ := List.mem_map.mp hg
  have hm := (homesOf_mem _ h).mp ((List.mergeSort_perm _ _).mem_iff.mp hh)
  have hp : ∀ t, t ∈ tripsOf inv sides pts ↔ ∃ x ∈ pts, t = (homeI (placeI inv x) sides, placeI inv x, x) := fun t => by
    unfold tripsOf
    rw [List.mem_map]
    exact ⟨fun ⟨x, a, b⟩ => ⟨x, a, b.symm⟩, fun ⟨x, a, b⟩ => ⟨x, a, b.symm⟩⟩
  refine ⟨fun z => ?_, ?_, fun x hx => ?_⟩
  · obtain ⟨t, ht, e⟩ := hm
    have : t.2 ∈ pairsAt (tripsOf inv sides pts) h := by
      unfold pairsAt
      exact List.mem_map_of_mem (List.mem_filter.mpr ⟨ht, by simpa using e⟩)
    have h2 := (List.mergeSort_perm (pairsAt (tripsOf inv sides pts) h) (TotLt.le lt2)).mem_iff.mpr this
    have h3 := List.mem_map_of_mem (f := fun z : RowI × RowI => z.2) h2
    dsimp only at z
    rw [z] at h3
    cases h3
  · show (((pairsAt (tripsOf inv sides pts) h).mergeSort (TotLt.le lt2)).map (·.2)).length ≤ _
    rw [List.length_map, List.length_mergeSort]
    unfold pairsAt tripsOf
    rw [List.length_map]
    exact Nat.le_trans (List.length_filter_le _ _) (by rw [List.length_map]; exact Nat.le_refl _)
  · obtain ⟨p, hp1, rfl⟩ := List.mem_map.mp hx
    have h2 := (List.mergeSort_perm _ _).mem_iff.mp hp1
    unfold pairsAt at h2
    obtain ⟨t, ht, rfl⟩ := List.mem_map.mp h2
    obtain ⟨ht1, ht2⟩ := List.mem_filter.mp ht
    obtain ⟨x, hx1, rfl⟩ := (hp t).mp ht1
    exact ⟨hx1, by simpa using ht2⟩
theorem lawParts_len {inv : List (List Int)} {sides : List Int} {pts : List (List Int)} : (lawParts inv sides pts).length ≤ pts.length := by
  unfold lawParts partsOf
  rw [List.length_map, List.length_mergeSort]
  have := homesOf_len (tripsOf inv sides pts)
  unfold tripsOf at this ⊢
  rw [List.length_map] at this
  exact this
theorem sd_nodup {l : List (List Int)} (h : l.Pairwise fun a b => ltL a b = true) : l.Nodup := h.imp fun {a b} e z => by
  subst z
  rw [ltL_tot.irr] at e
  cases e
theorem perm_of {l m : List (List Int)} (h1 : l.Nodup) (h2 : m.Nodup) (h : ∀ x, x ∈ l ↔ x ∈ m) : l.Perm m := (List.perm_ext_iff_of_nodup h1 h2).mpr h
/-! ### what a told list says -/
def pyG (g : RowI × List RowI) : PyData := .tuple [pyT g.1, .list (g.2.map pyT)]
def pyGs (gs : List (RowI × List RowI)) : PyData := .list (gs.map pyG)
/-- sizes -/
structure GsOk (gs : List (RowI × List RowI)) : Prop where
  few : gs.length ≤ 100
  each : ∀ g ∈ gs, g.1.length ≤ 100 ∧ g.2.length ≤ 100 ∧ ∀ x ∈ g.2, x.length ≤ 100
theorem deep_pts {μ : Mu} {n : Nat} {l : List RowI} (h : l.length ≤ 100) (hx : ∀ x ∈ l, x.length ≤ 100) (i : Nat) (d : D) (p : PyData) (h1 : (l.map tI)[i]? = some d) (h2 : (l.map pyT)[i]? = some p) : Deep μ (n + 1) d p := by
  rw [List.getElem?_map, Option.map_eq_some_iff] at h1 h2
  obtain ⟨x, e1, rfl⟩ := h1
  obtain ⟨y, e2, rfl⟩ := h2
  rw [e1] at e2
  cases e2
  exact deep_tI (by have := hx x (List.mem_of_getElem? e1); omega)
theorem deep_pair {μ : Mu} {n : Nat} {a b : D} {p q : PyData} (h1 : Deep μ n a p) (h2 : Deep μ n b q) : Deep μ (n + 1) (.tup [a, b]) (.tuple [p, q]) := by
  refine .tup rfl (by show 2 ≤ 1000; decide) fun i d r e1 e2 => ?_
  match i with
  | 0 => cases e1; cases e2; exact h1
  | 1 => cases e1; cases e2; exact h2
  | i + 2 => simp at e1
theorem deep_due {μ : Mu} {n : Nat} {gs : List (RowI × List RowI)} (h : GsOk gs) : Deep μ (n + 4) (.lst (gs.map encG)) (pyGs gs) := by
  have hf := h.few
  refine .lst (by rw [List.length_map, List.length_map]) (by rw [List.length_map]; omega) fun i d p h1 h2 => ?_
  rw [List.getElem?_map, Option.map_eq_some_iff] at h1 h2
  obtain ⟨x, e1, rfl⟩ := h1
  obtain ⟨y, e2, rfl⟩ := h2
  rw [e1] at e2
  cases e2
  obtain ⟨k1, k2, k3⟩ := h.each x (List.mem_of_getElem? e1)
  exact deep_pair (deep_tI (by omega)) (.lst (by rw [List.length_map, List.length_map]) (by rw [List.length_map]; omega) (deep_pts k2 k3))
theorem deep_told {μ0 μ : Mu} {n : Nat} {p : Addr} {qs : List Addr} {gs : List (RowI × List RowI)} (h : GsOk gs) (t : Told μ0 μ p qs gs) : Deep μ (n + 4) (.own p) (pyGs gs) := by
  have hf := h.few
  obtain ⟨ha, hl, he⟩ := t.at_
  refine .own ha (by rw [List.length_zipWith, List.length_map, hl]; omega) (by rw [List.length_zipWith, hl]; omega) fun i d r h1 h2 => ?_
  rw [List.getElem?_zipWith] at h1
  rw [List.getElem?_map, Option.map_eq_some_iff] at h2
  obtain ⟨g, e2, rfl⟩ := h2
  rw [e2] at h1
  cases hq : qs[i]? with
  | none => rw [hq] at h1; cases h1
  | some q =>
    rw [hq] at h1
    cases h1
    obtain ⟨k1, k2, k3⟩ := h.each g (List.mem_of_getElem? e2)
    exact deep_pair (deep_tI (by omega)) (.own (he i g q e2 hq) (by rw [List.length_map, List.length_map]) (by rw [List.length_map]; omega) (deep_pts k2 k3))
end K80
/-! V31 -/
namespace K80
open PySem PySem.Spec PyProof.Rows L2 L3 PySem.W
theorem range_get {n i j : Nat} (h : ((List.range n).map fun (k : Nat) => D.int (k : Int))[i]? = some (D.int (j : Int))) : i < n ∧ j = i := by
  rw [List.getElem?_map, Option.map_eq_some_iff] at h
  obtain ⟨k, h1, h2⟩ := h
  rw [List.getElem?_eq_some_iff] at h1
  obtain ⟨h3, h4⟩ := h1
  rw [List.getElem_range] at h4
  have : (k : Int) = j := D.int.inj h2
  exact ⟨by simpa using h3, by omega⟩
theorem range_get' {n i : Nat} {x : D} (h : ((List.range n).map fun (k : Nat) => D.int (k : Int))[i]? = some x) : i < n ∧ x = .int (i : Nat) := by
  rw [List.getElem?_map, Option.map_eq_some_iff] at h
  obtain ⟨k, h1, h2⟩ := h
  rw [List.getElem?_eq_some_iff] at h1
  obtain ⟨h3, h4⟩ := h1
  rw [List.getElem_range] at h4
  exact ⟨by simpa using h3, by rw [← h2, ← h4]⟩
/-- the body of the while -/
theorem und_body {K : PySem.W.Frag} {n c p : Nat} {B : List (List Int)} {μ : Mu} {F : DEnds} (hp : μ p = none) {m : Nat} {δ : De} {μ1 : Mu} (w : UndW n B c p μ m δ μ1) (h2 : ∃ a b, a < n ∧ b < n ∧ c ≤ a ∧ c ≤ b ∧ a ≠ b ∧ (∃ L, μ1 p = some (.lst (L.map lI)) ∧ en L a c ≠ 0 ∧ en L b c ≠ 0))
    (hF : ∀ δ' μ' m', m' < m → UndW n B c p μ m' δ' μ' → F.nx δ' μ') : (wSeq (wAsg (wOp gIx (wVar 6) (wC (.int 0))) 7)
    (wSeq (wFor (wSeqI (wVar 6)) (gN 4) (wIfS (wTest (wOp gLt (wCB gAbs (wCons (wOp gIx (wOp gIx (wVar 2) (wVar 4)) (wVar 5)) wNil)) (wCB gAbs (wCons (wOp gIx (wOp gIx (wVar 2) (wVar 7)) (wVar 5)) wNil)))) (wAsg (wVar 4) 7) wNext))
    (wSeq (wAsg (wOp gIx (wVar 2) (wVar 7)) 8)
    (wSeq (wFor (wSeqI (wVar 6)) (gN 4) (wIfS (wTest (wOp gNe (wVar 4) (wVar 7))) (wSeq (wAsg (wOp gDivX (wOp gIx (wOp gIx (wVar 2) (wVar 4)) (wVar 5)) (wOp gIx (wVar 8) (wVar 5))) 9)
    (wSetI (wVar 2) (wVar 4) (wLc (wZipI (wCons (wOp gIx (wVar 2) (wVar 4)) (wCons (wVar 8) wNil))) (gT 2 (gsCons (gN 10) (gsCons (gN 11) gsNil))) wYes (wOp gSub (wVar 10) (wOp gMulX (wVar 9) (wVar 11))) [10, 11]))) wNext))
    (wAsg (wLc (wRng2 (wCons (wVar 5) (wCons (wVar 1) wNil))) (gN 4) (wTest (wOp gNe (wOp gIx (wOp gIx (wVar 2) (wVar 4)) (wVar 5)) (wC (.int 0)))) (wVar 4) [4]) 6))))) F δ μ1 := by
  obtain ⟨L, x3, x4, x7, x8, x9, x10, x11, x12, x13, M, rfl, hm, ext, rfl⟩ := w
  obtain ⟨ka, kb, hka, hkb, cka, ckb, hab, L', hm', lka, lkb⟩ := h2
  have eL : L' = L := by
    rw [hm] at hm'
    have := MO.lst.inj (Option.some.inj hm')
    exact (List.map_inj_right (fun x y h => (List.map_inj_right (fun _ _ h => D.int.inj h)).mp (D.lst.inj h))).mp this.symm
  subst eL
  have h4 := M.n4
  have hl := M.len
  have hc := M.cn
  have hA : 1 ≤ 2 ^ exq c := Nat.pow_pos (by omega)
  have hc2 : c ≤ 2 := by omega
  have lna : ka ∈ liveN n c (en L') := mem_liveN.mpr ⟨hka, cka, lka⟩
  have hrowE : ∀ k, k < n → ∀ μ, itemD μ (lI (L'.getD k [])) (c : Int) = some (.int (en L' k c)) := fun k hk μ => ent_at (by rw [rowOf hl M.row hk]; omega)
  have hrowA : ∀ k, k < n → atI (L'.map lI) (k : Int) = some (lI (L'.getD k [])) := fun k hk => rowl_at (by omega)
  cases eN : liveN n c (en L') with
  | nil => rw [eN] at lna; cases lna
  | cons k0 ks =>
    have hk0 : k0 ∈ liveN n c (en L') := by rw [eN]; exact List.mem_cons_self
    unfold liveD
    rw [eN]
    have a0 : atI (D.int (k0 : Int) :: List.map (fun k : Nat => D.int (k : Int)) ks) 0 = some (.int (k0 : Int)) := at_0
    have eC : (D.int (k0 : Int) :: List.map (fun k : Nat => D.int (k : Int)) ks) = (liveN n c (en L')).map fun k => D.int (k : Nat) := by rw [eN]; rfl
    (refine seq_step ?_; simp! only [a0])
    (refine seq_step ?_; simp! only [])
    rw [eC]
    have hll := liveN_len (n := n) (c := c) (M := en L')
    -- best
    refine forD_inv (fun i δ μ' => ∃ x4' b, δ = [some (.lst (B.map tI)), some (.int n), some (.own p), x3, x4', some (.int c), some (.lst ((liveN n c (en L')).map fun k => D.int (k : Nat))), some (.int (b : Nat)), x8, x9, x10, x11, x12, x13] ∧ μ' = μ1 ∧ b ∈ liveN n c (en L') ∧ ∀ j k, j < i → (liveN n c (en L'))[j]? = some k → (en L' b c).natAbs ≤ (en L' k c).natAbs) 0 ⟨x4, k0, rfl, rfl, hk0, fun j k h => by omega⟩ (fun _ _ _ _ => trivial) ?_ ?_
    · rintro i x δ μ2 hx ⟨x4', b, rfl, rfl, hb, hle⟩ nx hnx
      rw [Nat.zero_add] at hle hnx
      rw [List.getElem?_map, Option.map_eq_some_iff] at hx
      obtain ⟨k, hk, rfl⟩ := hx
      have kl := mem_liveN.mp (List.mem_of_getElem? hk)
      have bl := mem_liveN.mp hb
      simp! only [itemD_own hm, hrowA k kl.1, hrowA b bl.1, hrowE k kl.1, hrowE b bl.1, abs_if]
      by_cases q : (en L' k c).natAbs < (en L' b c).natAbs
      · rw [if_pos (by simp; omega)]
        refine hnx _ _ ⟨_, k, rfl, rfl, List.mem_of_getElem? hk, fun j k' hj hk' => ?_⟩
        rcases Nat.lt_succ_iff_lt_or_eq.mp hj with z | z
        · exact Nat.le_trans (Nat.le_of_lt q) (hle j k' z hk')
        · subst z; rw [hk] at hk'; rw [Option.some.inj hk']; exact Nat.le_refl _
      · rw [if_neg (by simp; omega)]
        refine hnx _ _ ⟨_, b, rfl, rfl, hb, fun j k' hj hk' => ?_⟩
        rcases Nat.lt_succ_iff_lt_or_eq.mp hj with z | z
        · exact hle j k' z hk'
        · subst z; rw [hk] at hk'; rw [← Option.some.inj hk']; omega
    · rintro δ μ2 ⟨x4', b, rfl, rfl, hb, hle⟩
      have bl := mem_liveN.mp hb
      have hlen : 0 + ((liveN n c (en L')).map fun k => D.int (k : Nat)).length = (liveN n c (en L')).length := by simp
      rw [hlen] at hle
      have ls : Least n c (en L') b := ⟨bl.1, bl.2.1, bl.2.2, fun k hk ck lk => by
        obtain ⟨j, hj, e⟩ := List.getElem_of_mem (mem_liveN.mpr ⟨hk, ck, lk⟩)
        exact hle j k hj (by rw [List.getElem?_eq_getElem hj, e])⟩
      simp! only []
      (refine seq_step ?_; simp! only [itemD_own hm, hrowA b bl.1])
      (refine seq_step ?_; simp! only [])
      -- the pass
      refine forD_inv (fun i δ μ' => ∃ x4' x9 x10 x11 L2, δ = [some (.lst (B.map tI)), some (.int n), some (.own p), x3, x4', some (.int c), some (.lst ((liveN n c (en L')).map fun k => D.int (k : Nat))), some (.int (b : Nat)), some (lI (L'.getD b [])), x9, x10, x11, x12, x13] ∧ μ' p = some (.lst (L2.map lI)) ∧ Ext μ μ' ∧
          Upto n L' (fun k => subI (L'.getD k []) (L'.getD b []) ((en L' k c).fdiv (en L' b c))) (fun k => k ∈ (liveN n c (en L')).take i ∧ k ≠ b) L2) 0
        ⟨x4', x9, x10, x11, L', rfl, hm, ext, .start hl fun k hk q => by simp at q⟩ (fun _ _ _ _ => trivial) ?_ ?_
      · rintro i x δ μ3 hx ⟨x4', x9, x10, x11, L2, rfl, hm3, ext3, U⟩ nx hnx
        rw [Nat.zero_add] at U hnx
        rw [List.getElem?_map, Option.map_eq_some_iff] at hx
        obtain ⟨k, hk, rfl⟩ := hx
        have kl := mem_liveN.mp (List.mem_of_getElem? hk)
        have tk : (liveN n c (en L')).take (i + 1) = (liveN n c (en L')).take i ++ [k] := by rw [List.take_succ, hk]; rfl
        have knot : k ∉ (liveN n c (en L')).take i := fun q => by
          have nd := (liveN_nd (n := n) (c := c) (M := en L')).sublist (List.take_sublist (i + 1) _)
          rw [tk, List.nodup_append] at nd
          exact nd.2.2 k q k List.mem_cons_self rfl
        simp! only []
        by_cases q : (k : Int) = b
        · have q' : k = b := by omega
          rw [if_neg (by simpa using q)]
          refine hnx _ _ ⟨_, _, _, _, L2, rfl, hm3, ext3, ⟨U.len, fun k' hk' z => U.yes k' hk' ?_, fun k' hk' z => U.no k' hk' fun y => z ⟨?_, y.2⟩⟩⟩
          · rw [tk] at z
            rcases List.mem_append.mp z.1 with y | y
            · exact ⟨y, z.2⟩
            · exact absurd ((List.mem_singleton.mp y).trans q') z.2
          · rw [tk]; exact List.mem_append_left _ y.1
        · have q' : k ≠ b := by omega
          rw [if_pos (by simpa using q)]
          have r1 : L2.getD k [] = L'.getD k [] := U.no k kl.1 fun z => knot z.1
          have a1 := rowl_at (L := L2) (k := k) (by rw [U.len]; exact kl.1)
          rw [r1] at a1
          have rl1 := rowOf hl M.row kl.1
          have rl2 := rowOf hl M.row bl.1
          have d1 : (en L' k c).natAbs ≤ 4 * (2 ^ exq c) ^ 5 := M.eu.bd hA _ kl.1 c (by omega)
          have d2 : (en L' b c).natAbs ≤ 4 * (2 ^ exq c) ^ 5 := M.eu.bd hA _ bl.1 c (by omega)
          refine seq_step ?_
          simp! only [itemD_own hm3, a1, hrowE k kl.1, hrowE b bl.1]
          refine ⟨div_of hc2 ls.live d2, (L'.getD k []).map D.int, rfl, (L'.getD b []).map D.int, rfl, ?_⟩
          rw [zipD]
          refine ⟨by rw [List.length_map, List.length_zip]; show _ ≤ 100000; omega, lcD_of _ (fun z => .int (z.1 - ((en L' k c).fdiv (en L' b c)) * z.2)) (by exact ⟨trivial, trivial⟩) (fun z hz Ry Rn g1 g2 => ?_) ?_⟩
          · simp! only []
            refine ⟨?_, g1 _ rfl⟩
            exact wide_of (c := c) (by omega) (Nat.le_trans (fdiv_abs _ _ ls.live) d1) (M.small hA bl.1 _ (List.of_mem_zip hz).2)
          · rw [List.nil_append]
            have ed : ((L'.getD k []).zip (L'.getD b [])).map (fun z => D.int (z.1 - ((en L' k c).fdiv (en L' b c)) * z.2)) = (subI (L'.getD k []) (L'.getD b []) ((en L' k c).fdiv (en L' b c))).map D.int := by unfold subI; rw [List.map_map]; rfl
            rw [ed]
            refine ⟨_, hm3, k, ixN_nat (by rw [List.length_map, U.len]; exact kl.1), hnx _ _ ⟨_, _, _, _, L2.set k (subI (L'.getD k []) (L'.getD b []) ((en L' k c).fdiv (en L' b c))), rfl, ?_, ext3.set hp, U.more kl.1 fun k' => ?_⟩⟩
            · rw [mset_same, ← map_set_lI]; rfl
            · rw [tk, List.mem_append, List.mem_singleton]
              exact ⟨fun z => z.1.elim (fun y => .inl ⟨y, z.2⟩) .inr, fun z => z.elim (fun y => ⟨.inl y.1, y.2⟩) fun y => ⟨.inr y, y ▸ q'⟩⟩
      · rintro δ μ3 ⟨x4', x9, x10, x11, L2, rfl, hm3, ext3, U⟩
        have hlen : 0 + ((liveN n c (en L')).map fun k => D.int (k : Nat)).length = (liveN n c (en L')).length := by simp
        rw [hlen, List.take_length] at U
        obtain ⟨bo, hbo, cbo, hne, lbo⟩ : ∃ k, k < n ∧ c ≤ k ∧ k ≠ b ∧ en L' k c ≠ 0 := by
          by_cases z : ka = b
          · exact ⟨kb, hkb, ckb, fun y => hab (z.trans y.symm), lkb⟩
          · exact ⟨ka, hka, cka, z, lka⟩
        obtain ⟨M2, fall⟩ := M.pass2 ls hA U hbo cbo hne lbo
        dsimp only
        unfold wAsg
        refine live_lc (d0 := none) (d3 := none) M2 hm3 rfl rfl rfl rfl ?_
        exact hF _ _ _ fall ⟨L2, _, _, _, _, _, _, _, _, _, M2, rfl, hm3, ext3, rfl⟩
end K80
/-! V32 -/
namespace K80
open PySem PySem.Spec PyProof.Rows L2 L3 PySem.W
theorem len_test {δ : De} {μ : Mu} {Q : Bool → Mu → Prop} {xs : List D} {i : Nat} (h : δ[i]? = some (some (.lst xs))) (q : Q (decide ((1 : Int) < xs.length)) μ) : wTest (wOp gGt (wCB gLen (wCons (wVar i) wNil)) (wC (.int 1))) δ μ Q := by
  simp! only [h]
  exact q
theorem vc__law_undone {K : PySem.W.Frag} : ∀ ds μ P, sp__law_undone K ds μ P → t__law_undone K { nx := fun _ μ' => fgt P .non μ', rt := fgt P } (startD N__law_undone.length ds) μ := by
  rintro ds μ P ⟨n, rows, rfl, hb, k⟩
  have hl := hb.len
  have h4 := hb.n4
  have h0 := hb.n0
  unfold t__law_undone
  (refine seq_step ?_; simp! only [List.length_map, hl])
  (refine seq_step ?_; simp! only [])
  refine ⟨⟨by omega, by omega⟩, ?_⟩
  rw [Int.toNat_natCast, rangeD_0]
  refine ⟨by simp [lim]; omega, lcD_of _ (fun k => lI (rows.getD k [] ++ unitR n k)) (by trivial) (fun k hk Ry Rn h1 h2 => ?_) ?_⟩
  · have hk' : k < n := by simpa using hk
    have a1 := row_at (L := rows) (k := k) (by omega)
    have hrl := hb.rowAt hk'
    simp! only [a1]
    refine ⟨(rows.getD k []).map D.int, rfl, ⟨by omega, by omega⟩, ?_⟩
    rw [Int.toNat_natCast, rangeD_0]
    refine ⟨by simp [lim]; omega, lcD_of _ (fun i => .int (if i = k then 1 else 0)) (by trivial) (fun i hi Ry' Rn' g1 g2 => ?_) ?_⟩
    · simp! only []
      by_cases e : i = k
      · subst e
        have := g1 _ rfl
        simpa using this
      · have := g1 _ rfl
        have e' : ¬ (i : Int) = (k : Int) := by omega
        simpa [e, e'] using this
    · rw [List.nil_append]
      have eu : ((List.range n).map fun i => D.int (if i = k then 1 else 0)) = (unitR n k).map D.int := by unfold unitR; rw [List.map_map]; rfl
      rw [eu]
      refine ⟨_, rfl, by rw [List.length_map, List.length_map, unitR_len]; show _ ≤ 100000; omega, ?_⟩
      rw [← List.map_append]
      exact h1 _ rfl
  rw [List.nil_append]
  have ew : ((List.range n).map fun k => lI (rows.getD k [] ++ unitR n k)) = (wideL n rows).map lI := by unfold wideL; rw [List.map_map]; rfl
  rw [ew]
  refine ⟨_, rfl, fun p hp => ?_⟩
  (refine seq_step ?_; simp! only [])
  refine ⟨⟨by omega, by omega⟩, ?_⟩
  rw [Int.toNat_natCast, rangeD_0]
  refine forD_inv (fun i δ μ' => i ≤ n ∧ ∃ p L x3 x4 x5 x6 x7 x8 x9 x10 x11 x12 x13, δ = [some (.lst (rows.map tI)), some (.int n), some (.own p), x3, x4, x5, x6, x7, x8, x9, x10, x11, x12, x13] ∧ μ p = none ∧ μ' p = some (.lst (L.map lI)) ∧ Ext μ μ' ∧ Tab n rows i L) 0
    ⟨Nat.zero_le _, p, wideL n rows, none, none, none, none, none, none, none, none, none, none, none, rfl, hp, mset_same, (Ext.refl μ).set hp, wide_tab hb⟩ (fun _ _ _ _ => trivial) ?_ ?_
  · rintro c x δ μ1 hx ⟨_, p, L, x3, x4, x5, x6, x7, x8, x9, x10, x11, x12, x13, rfl, hp, hm, ext, T⟩ nx hnx
    rw [Nat.zero_add] at T hnx
    obtain ⟨hc, rfl⟩ := range_get' hx
    have M : Mid n rows c (2 ^ exq c) L := ⟨h4, hc, T.len, T.row, T.good, .inl T.bd⟩
    simp! only []
    refine seq_step ?_
    unfold wAsg
    refine live_lc (d0 := none) (d3 := none) M hm rfl rfl rfl rfl ?_
    refine seq_step ?_
    refine ⟨UndW n rows c p μ, ⟨_, ⟨L, _, _, _, _, _, _, _, _, _, M, rfl, hm, ext, rfl⟩⟩, ?_⟩
    rintro m δ μ2 w
    have w0 := w
    obtain ⟨L, x3, x4, x7, x8, x9, x10, x11, x12, x13, M, rfl, hm, ext, rfl⟩ := w
    have hl := M.len
    have hA : 1 ≤ 2 ^ exq c := Nat.pow_pos (by omega)
    refine len_test (xs := (liveN n c (en L)).map fun k => D.int (k : Nat)) rfl ?_
    rw [List.length_map]
    by_cases two : (1 : Int) < (liveN n c (en L)).length
    · rw [if_pos (by simpa using two)]
      refine und_body (K := K) hp w0 ?_ ?_
      rotate_left
      · exact fun δ' μ' m' hm' w' => ⟨m', hm', w'⟩
      cases e : liveN n c (en L) with
      | nil => rw [e] at two; simp at two
      | cons a r =>
        cases r with
        | nil => rw [e] at two; simp at two
        | cons b r =>
          have ha : a ∈ liveN n c (en L) := by rw [e]; simp
          have hb' : b ∈ liveN n c (en L) := by rw [e]; simp
          have nd := liveN_nd (n := n) (c := c) (M := en L)
          rw [e] at nd
          have a1 := mem_liveN.mp ha
          have b1 := mem_liveN.mp hb'
          exact ⟨a, b, a1.1, b1.1, a1.2.1, b1.2.1, fun z => by rw [z] at nd; simp at nd, L, hm, a1.2.2, b1.2.2⟩
    · rw [if_neg (by simpa using two)]
      unfold liveD
      obtain ⟨kl, hkl, ckl, lkl⟩ := live_of M.good hc
      have hin : kl ∈ liveN n c (en L) := mem_liveN.mpr ⟨hkl, ckl, lkl⟩
      cases e : liveN n c (en L) with
      | nil => rw [e] at hin; cases hin
      | cons k0 r =>
        have : r = [] := by
          cases r with
          | nil => rfl
          | cons b r => rw [e] at two; simp at two; omega
        subst this
        have hk0 : k0 ∈ liveN n c (en L) := by rw [e]; simp
        obtain ⟨hk0n, ck0, l0⟩ := mem_liveN.mp hk0
        have only : ∀ k, k < n → c ≤ k → k ≠ k0 → en L k c = 0 := fun k hk ck hne => Classical.byContradiction fun z => hne (by
          have := mem_liveN.mpr ⟨hk, ck, z⟩
          rw [e] at this
          exact List.mem_singleton.mp this)
        have hpiv : en L k0 c ∣ 1 := M.good.pivot hc fun k hk ck => by
          by_cases z : k = k0
          · rw [z]; exact Int.dvd_refl _
          · rw [only k hk ck z]; exact Int.dvd_zero _
        have hunit : en L k0 c = 1 ∨ en L k0 c = -1 := by
          have := Int.natAbs_dvd_natAbs.mpr hpiv
          have := Nat.dvd_one.mp this
          omega
        have a0 : atI [D.int (k0 : Int)] 0 = some (.int (k0 : Int)) := at_0
        have hrowE : ∀ k, k < n → ∀ μ, itemD μ (lI (L.getD k [])) (c : Int) = some (.int (en L k c)) := fun k hk μ => ent_at (by rw [rowOf hl M.row hk]; omega)
        have hrowA : ∀ k, k < n → atI (L.map lI) (k : Int) = some (lI (L.getD k [])) := fun k hk => rowl_at (by omega)
        have rl0 := rowOf hl M.row hk0n
        have rlc := rowOf hl M.row hc
        have hAb := M.eu.bd hA
        rw [List.map_cons, List.map_nil]
        dsimp only
        (refine seq_step ?_; simp! only [itemD_own hm, hrowA k0 hk0n, hrowE k0 hk0n, a0, List.isEmpty_cons, Bool.not_false, Bool.not_true, abs_if])
        have e1 : (en L k0 c).natAbs = 1 := by omega
        rw [e1]
        simp! only [show ((1 : Nat) : Int) = 1 from rfl, decide_true, Bool.not_true]
        (refine seq_step ?_; simp! only [itemD_own hm, hrowA k0 hk0n, hrowE k0 hk0n, a0])
        let sg := en L k0 c
        let lead := (L.getD k0 []).map fun x => sg * x
        have hlead : lead.length = 2 * n := by show (List.map _ _).length = _; rw [List.length_map]; exact rl0
        refine ⟨(L.getD k0 []).map D.int, rfl, by rw [List.length_map, rl0]; show _ ≤ 100000; omega, lcD_of D.int (fun x => .int (sg * x)) (by trivial) (fun x hx Ry Rn g1 g2 => ?_) ?_⟩
        · simp! only [itemD_own hm, hrowA k0 hk0n, hrowE k0 hk0n, a0]
          exact ⟨mulL (by omega) (by omega), g1 _ rfl⟩
        rw [List.nil_append]
        have ed : (L.getD k0 []).map (fun x => D.int (sg * x)) = lead.map D.int := (List.map_map (g := D.int) (f := fun x : Int => sg * x) (l := L.getD k0 [])).symm
        rw [ed]
        refine seq_step ?_
        simp! only [itemD_own hm, hrowA c hc, a0]
        refine ⟨_, hm, k0, ixN_nat (by rw [List.length_map]; omega), ?_⟩
        rw [map_set_lI]
        refine seq_step ?_
        simp! only []
        refine ⟨c, ixN_nat (by rw [List.length_map, List.length_set]; omega), ⟨by omega, by omega⟩, ?_⟩
        show _ ∧ lcD _ _ _ _ _ _ _ _ _ (mset μ2 p (.lst (((L.set k0 (L.getD c [])).map lI).set c (lI lead))))
        rw [map_set_lI]
        let L2 := (L.set k0 (L.getD c [])).set c lead
        have hL2 : L2.length = n := by show (List.set _ _ _).length = n; rw [List.length_set, List.length_set]; exact hl
        have e2 : ∀ k, k < n → ∀ j, j < 2 * n → en L2 k j = (if k = c then sg else 1) * en L (sw k0 c k) j := fun k hk j hj => by
          show en ((L.set k0 (L.getD c [])).set c lead) k j = _
          rw [en_set (by rw [List.length_set]; omega)]
          unfold sw
          by_cases q : k = c
          · rw [if_pos q, if_pos q, if_pos q]
            show ((L.getD k0 []).map fun x => sg * x).getD j 0 = _
            rw [getD_map0 (by omega)]; rfl
          · rw [if_neg q, if_neg q, if_neg q, en_set (by omega)]
            by_cases q2 : k = k0
            · rw [if_pos q2, if_pos q2]; show (L.getD c []).getD j 0 = 1 * en L c j; unfold en; omega
            · rw [if_neg q2, if_neg q2]; omega
        have hr2 : ∀ r ∈ L2, r.length = 2 * n := fun r hr => by
          rcases mem_set_or hr with q | q
          · rcases mem_set_or q with q | q
            · exact M.row r q
            · rw [q]; exact rlc
          · rw [q]; exact hlead
        have hsg : sg = 1 ∨ sg = -1 := hunit
        have G2 : GoodF n (en rows) c (en L2) := by
          have g1 : GoodF n (en rows) c (fun k j => en L (sw k0 c k) j) := M.good.perm (s := sw k0 c) (fun k hk => sw_lt hk0n hc hk) (fun k hk => sw_sw) (fun k hk => by unfold sw; rw [if_neg (by omega), if_neg (by omega)]) (fun k hk j hj => rfl) (by omega)
          exact g1.neg (s := fun k => if k = c then sg else 1) (fun k _ => by rcases hsg with q | q <;> rw [q] <;> (split <;> decide)) (fun k hk => if_neg (by omega)) e2 (by omega)
        have B2 : Bd n (en L2) (4 * (2 ^ exq c) ^ 5) := fun k hk j hj => by
          have := hAb (sw k0 c k) (sw_lt hk0n hc hk) j hj
          rw [e2 k hk j hj, Int.natAbs_mul]
          have : ((if k = c then sg else 1 : Int)).natAbs = 1 := by rcases hsg with q | q <;> rw [q] <;> (split <;> decide)
          rw [this]; omega
        have p1 : en L2 c c = 1 := by
          rw [e2 c hc c (by omega), if_pos rfl]
          have : sw k0 c c = k0 := by unfold sw; rw [if_pos rfl]
          rw [this]
          show sg * sg = 1
          rcases hsg with q | q <;> rw [q] <;> decide
        have rows2 : ∀ k, k < n → (L2.getD k []).length = 2 * n := fun k hk => rowOf hL2 hr2 hk
        have lead2 : L2.getD c [] = lead := by
          show ((L.set k0 (L.getD c [])).set c lead).getD c [] = _
          rw [List.getD_eq_getElem?_getD, List.getElem?_set_self (by rw [List.length_set]; omega)]; rfl
        have hm3 : mset μ2 p (.lst (L2.map lI)) p = some (.lst (L2.map lI)) := mset_same
        show _ ∧ lcD _ _ _ _ _ _ _ _ _ (mset μ2 p (.lst (L2.map lI)))
        clear_value L2
        rw [Int.toNat_natCast, rangeD_0]
        have rowA2 : ∀ k, k < n → atI (L2.map lI) (k : Int) = some (lI (L2.getD k [])) := fun k hk => rowl_at (by omega)
        have rowE2 : ∀ k, k < n → ∀ μ, itemD μ (lI (L2.getD k [])) (c : Int) = some (.int (en L2 k c)) := fun k hk μ => ent_at (by rw [rows2 k hk]; omega)
        let L3 := (List.range n).map fun k => if k = c then L2.getD k [] else subI (L2.getD k []) lead (en L2 k c)
        refine ⟨by simp [lim]; omega, lcD_of _ (fun k => lI (if k = c then L2.getD k [] else subI (L2.getD k []) lead (en L2 k c))) (by trivial) (fun k hk Ry Rn g1 g2 => ?_) ?_⟩
        · have hk' : k < n := by simpa using hk
          simp! only [itemD_own hm3, rowA2 k hk', rowE2 k hk']
          by_cases q : (k : Int) = c
          · have q' : k = c := by omega
            rw [if_pos (by simpa using q)]
            rw [if_pos q'] at g1
            exact g1 _ rfl
          · have q' : k ≠ c := by omega
            rw [if_neg (by simpa using q)]
            rw [if_neg q'] at g1
            refine ⟨(L2.getD k []).map D.int, rfl, ?_⟩
            rw [zipD]
            refine ⟨by rw [List.length_map, List.length_zip, rows2 k hk']; show _ ≤ 100000; omega, lcD_of _ (fun z => .int (z.1 - (en L2 k c) * z.2)) (by first | trivial | exact ⟨trivial, trivial⟩) (fun z hz Ry' Rn' i1 i2 => ?_) ?_⟩
            · simp! only [itemD_own hm3, rowA2 k hk', rowE2 k hk']
              refine ⟨?_, i1 _ rfl⟩
              have hz2 := (List.of_mem_zip hz).2
              obtain ⟨j, hj, ej⟩ := get_ent hz2
              have := B2 c hc j (by omega)
              unfold en at this
              rw [lead2, ej] at this
              exact wide_of (c := c) (by omega) (B2 k hk' c (by omega)) this
            · rw [List.nil_append]
              have := g1 _ rfl
              unfold lI subI at this
              rw [List.map_map] at this
              exact this
        · rw [List.nil_append]
          have e3 : ((List.range n).map fun k => lI (if k = c then L2.getD k [] else subI (L2.getD k []) lead (en L2 k c))) = L3.map lI := by show _ = (List.map _ _).map _; rw [List.map_map]; rfl
          rw [e3]
          refine ⟨_, rfl, fun p' hp' => ?_⟩
          have hL3 : L3.length = n := by show (List.map _ _).length = n; simp
          have row3 : ∀ k, k < n → L3.getD k [] = if k = c then L2.getD k [] else subI (L2.getD k []) lead (en L2 k c) := fun k hk => getD_map_range hk
          have e4 : ∀ k, k < n → ∀ j, j < 2 * n → en L3 k j = en L2 k j - (if k = c then 0 else en L2 k c) * en L2 c j := fun k hk j hj => by
            have r1 := rows2 k hk
            show (L3.getD k []).getD j 0 = _
            rw [row3 k hk]
            by_cases q : k = c
            · rw [if_pos q, if_pos q]; show en L2 k j = _; omega
            · rw [if_neg q, if_neg q, subI_at (by omega) (by omega)]
              show en L2 k j - _ * lead.getD j 0 = _
              rw [← lead2]; rfl
          have G3 : GoodF n (en rows) c (en L3) := G2.add (t := fun k => if k = c then 0 else en L2 k c) hc (Nat.le_refl _) (if_pos rfl) e4 (by omega)
          refine hnx _ _ ⟨hc, p', L3, _, _, _, _, _, _, _, _, _, _, _, rfl, ?_, mset_same, ?_, ⟨h4, hc, hL3, all_row hL3 fun k hk => ?_, G3.next fun k hk => ?_, bd_next ?_⟩⟩
          · exact (ext.set (o := .lst (L2.map lI)) hp).none hp'
          · exact (ext.set (o := .lst (L2.map lI)) hp).set ((ext.set (o := .lst (L2.map lI)) hp).none hp')
          · rw [row3 k hk]
            split
            · exact rows2 k hk
            · exact subI_len (rows2 k hk) hlead
          · rw [e4 k hk c (by omega), p1]
            unfold dl
            by_cases q : k = c
            · subst q; rw [if_pos rfl, if_pos rfl, p1]; omega
            · rw [if_neg q, if_neg q]; omega
          · refine bd_clear (t := fun k => if k = c then 0 else en L2 k c) B2 hc (fun k hk => ?_) e4
            split
            · simp
            · exact B2 k hk c (by omega)
  · rintro δ μ1 ⟨_, p, L, x3, x4, x5, x6, x7, x8, x9, x10, x11, x12, x13, rfl, hp, hm, ext, T⟩
    have hlen : 0 + ((List.range n).map fun (i : Nat) => D.int (i : Int)).length = n := by simp
    rw [hlen] at T
    have hTl := T.len
    simp! only [walkD_own hm]
    refine ⟨by simp [lim]; omega, lcD_of lI (fun r => lI (r.drop n)) hm (fun r hr Ry Rn h1 h2 => ?_) ?_⟩
    · unfold lI
      simp! only [L3.cut_lo]
      rw [← List.map_drop]
      exact h1 _ rfl
    · rw [List.nil_append]
      refine ⟨μ, ext.fgt, ?_⟩
      have := k _ T.inv
      unfold tailL at this
      rw [List.map_map] at this
      exact this
end K80
/-! VL2 -/
namespace K80
open PySem PySem.Spec PyProof.Rows L2 L3
/-- ahead of the lambdas: slots 13 lot, 14 cut, 22 strange, 23 foreign, 10 due -/
structure LawMid (K : PySem.W.Frag) (δ : De) : Prop where
  ex : ∃ (deep : Nat) (n m : NestT) (rows : List (List Int)) (sides : List Int) (inv pts pts2 : List (List Int)) (gs : List (RowI × List RowI)), δ[13]? = some (some (lotI K n pts)) ∧ δ[14]? = some (some (blockI K n rows sides inv)) ∧ δ[22]? = some (some (blockI K m rows sides inv)) ∧ δ[23]? = some (some (lotI K m pts2)) ∧
    δ[10]? = some (some (.lst (gs.map encG))) ∧ nestTxt m ≠ nestTxt n ∧ n.1.length = deep ∧ m.1.length = deep ∧ 0 < deep ∧ deep ≤ 4 ∧ Sq deep inv ∧ SidesOk deep sides ∧ LotOk deep pts ∧ LotOk deep pts2 ∧ lawParts inv sides pts = gs ∧ lawParts inv sides pts2 = gs ∧ GsOk gs
/-- what is drawn at the start -/
structure Drawn (K : PySem.W.Frag) (deep wide : Nat) (n : NestT) (rows inv : List (List Int)) (sides others : List Int) (pts : List (List Int)) : Prop where
  d0 : 0 < deep
  d4 : deep ≤ 4
  w0 : 0 < wide
  w4 : wide ≤ 4
  nest : NestOk deep wide n
  bas : Bas deep rows
  inv : IsInv deep rows inv
  sides : SidesOk deep sides
  others : SidesOk deep others
  pts : PtsOk deep pts
theorem vk01 {K : PySem.W.Frag} {cells : List Int} {F : DEnds}
    (h : ∀ (a : Addr) (deep : Nat) (μ : Mu), 0 < deep → deep ≤ 4 → BagAt μ a → t_law_k2 K F [some (.fz (cells.map .int)), some (.own a), some (.int deep), none, none, none, none, none, none, none, none, none, none, none, none, none, none, none, none, none, none, none, none, none] μ) :
    t_law_k0 K F (startD N_law.length [.fz (cells.map .int)]) (fun _ => none) := by
  unfold t_law_k0
  (refine seq_step ?_; simp! only [N_law])
  refine ⟨cells, rfl, fun a μ1 _ _ b1 => ?_⟩
  unfold t_law_k1
  (refine seq_step ?_; simp! only [])
  refine ⟨by decide, of_ints (xs := [2, 3, 1, 2, 3, 4]) b1 (by decide) (by decide) fun x μ2 hx _ b2 => ?_⟩
  have : ∃ deep : Nat, x = deep ∧ 0 < deep ∧ deep ≤ 4 := by
    simp at hx
    rcases hx with h | h | h | h | h | h
    · exact ⟨2, by omega, by omega, by omega⟩
    · exact ⟨3, by omega, by omega, by omega⟩
    · exact ⟨1, by omega, by omega, by omega⟩
    · exact ⟨2, by omega, by omega, by omega⟩
    · exact ⟨3, by omega, by omega, by omega⟩
    · exact ⟨4, by omega, by omega, by omega⟩
  obtain ⟨deep, rfl, h0, h4⟩ := this
  exact h a deep μ2 h0 h4 b2
theorem vk2 {K : PySem.W.Frag} {F : DEnds} {a : Addr} {deep : Nat} {sc : Option D} {μ : Mu} (h0 : 0 < deep) (h4 : deep ≤ 4) (b : BagAt μ a)
    (h : ∀ (wide : Nat) (n : NestT) (μ : Mu), 0 < wide → wide ≤ 4 → NestOk deep wide n → BagAt μ a → t_law_k3 K F [sc, some (.own a), some (.int deep), some (encN n), none, none, none, none, none, none, none, none, none, none, none, none, none, none, none, none, none, none, none, none] μ) :
    t_law_k2 K F [sc, some (.own a), some (.int deep), none, none, none, none, none, none, none, none, none, none, none, none, none, none, none, none, none, none, none, none, none] μ := by
  unfold t_law_k2
  (refine seq_step ?_; simp! only [])
  refine ⟨by decide, of_ints (xs := [2, 3, 1, 4]) b (by decide) (by decide) fun x μ1 hx _ b1 => ?_⟩
  have : ∃ wide : Nat, x = wide ∧ 0 < wide ∧ wide ≤ 4 := by
    simp at hx
    rcases hx with h | h | h | h
    · exact ⟨2, by omega, by omega, by omega⟩
    · exact ⟨3, by omega, by omega, by omega⟩
    · exact ⟨1, by omega, by omega, by omega⟩
    · exact ⟨4, by omega, by omega, by omega⟩
  obtain ⟨wide, rfl, w0, w4⟩ := this
  refine ⟨a, 3, rfl, b1, by decide, by decide, fun r μ2 _ b2 _ _ => ?_⟩
  exact ⟨_, rfl, a, deep, wide, _, rfl, b2, h0, by omega, by omega, fun ms μ3 hm _ b3 => ⟨a, deep, wide, ms, rfl, hm, w4, h4, b3, fun n μ4 hn _ b4 => h wide n μ4 w0 w4 hn b4⟩⟩
theorem vk3 {K : PySem.W.Frag} {F : DEnds} {a : Addr} {deep : Nat} {sc x3 : Option D} {μ : Mu} (h0 : 0 < deep) (h4 : deep ≤ 4) (b : BagAt μ a)
    (h : ∀ (rows inv : List (List Int)) (μ : Mu), Bas deep rows → IsInv deep rows inv → BagAt μ a → t_law_k5 K F [sc, some (.own a), some (.int deep), x3, some (.lst (rows.map tI)), some (.lst (inv.map lI)), none, none, none, none, none, none, none, none, none, none, none, none, none, none, none, none, none, none] μ) :
    t_law_k3 K F [sc, some (.own a), some (.int deep), x3, none, none, none, none, none, none, none, none, none, none, none, none, none, none, none, none, none, none, none, none] μ := by
  unfold t_law_k3
  (refine seq_step ?_; simp! only [])
  refine ⟨by decide, of_ints (xs := [4, 7, 2, 0, 9]) b (by decide) (by decide) fun x μ1 hx _ b1 => ?_⟩
  have : ∃ steps : Nat, x = steps ∧ steps ≤ 100 := by
    simp at hx
    rcases hx with h | h | h | h | h
    · exact ⟨4, by omega, by omega⟩
    · exact ⟨7, by omega, by omega⟩
    · exact ⟨2, by omega, by omega⟩
    · exact ⟨0, by omega, by omega⟩
    · exact ⟨9, by omega, by omega⟩
  obtain ⟨steps, rfl, hs⟩ := this
  refine ⟨a, deep, steps, rfl, b1, h0, h4, hs, fun rows μ2 hb _ b2 => ?_⟩
  unfold t_law_k4
  (refine seq_step ?_; simp! only [])
  exact ⟨deep, rows, rfl, hb, fun inv hi => h rows inv μ2 hb hi b2⟩
theorem lc_sides {K : PySem.W.Frag} {a : Addr} {deep : Nat} {xs : List Int} {W : WA} {c1 c3 c4 c5 c6 c7 c8 d1 d2 d3 d4 d5 d6 d7 d8 d9 e1 e2 e3 e4 e5 e6 e7 : Option D} {P : D → Mu → Prop} {μ : Mu} (hW : ∀ δ μ Q, W δ μ Q = Q (xs.map D.int) μ) (hl : 0 < xs.length) (hl2 : xs.length < 1000) (hx : ∀ x ∈ xs, 1 ≤ x ∧ x ≤ 20) (b : BagAt μ a)
    (h : ∀ sides μ', SidesOk deep sides → BagAt μ' a → P (lI sides) μ') :
    lcD (gN 8) wYes (wCall (sp__law_of K) (wCons (wVar 1) (wCons (wLst W) wNil))) [8] (fun _ => True) P [c1, some (.own a), c3, c4, c5, c6, c7, c8, d1, d2, d3, d4, d5, d6, d7, d8, d9, e1, e2, e3, e4, e5, e6, e7] (List.map (fun i : Nat => D.int i) (List.range (deep : Int).toNat)) [] μ := by
  rw [Int.toNat_natCast]
  refine lcD_inv (fun i acc μ' => ∃ r : List Int, acc = r.map .int ∧ SidesOk i r ∧ BagAt μ' a) 0 ⟨[], rfl, ⟨rfl, by simp, by simp⟩, b⟩ (fun _ _ _ _ => trivial) ?_ ?_
  · rintro i x acc μ1 _ ⟨r, rfl, hr, b1⟩ Ry Rn r1 r2
    simp! only [hW]
    refine ⟨by rw [List.length_map]; unfold lim; omega, of_ints b1 hl hl2 fun y μ2 hy _ b2 => r1 _ _ ⟨r ++ [y], by simp, ⟨by simp [hr.len], fun z hz => ?_, fun z hz => ?_⟩, b2⟩⟩
    · rcases List.mem_append.mp hz with q | q
      · exact hr.lo z q
      · rw [List.mem_singleton.mp q]; exact (hx y hy).1
    · rcases List.mem_append.mp hz with q | q
      · exact hr.hi z q
      · rw [List.mem_singleton.mp q]; exact (hx y hy).2
  · rintro acc μ1 ⟨r, rfl, hr, b1⟩
    simp at hr
    exact h r μ1 hr b1
theorem vk5 {K : PySem.W.Frag} {F : DEnds} {a : Addr} {deep : Nat} {sc x3 x4 x5 : Option D} {μ : Mu} (h0 : 0 < deep) (h4 : deep ≤ 4) (b : BagAt μ a)
    (h : ∀ (sides others : List Int) (μ : Mu), SidesOk deep sides → SidesOk deep others → BagAt μ a → t_law_k6 K F [sc, some (.own a), some (.int deep), x3, x4, x5, some (lI sides), some (lI others), none, none, none, none, none, none, none, none, none, none, none, none, none, none, none, none] μ) :
    t_law_k5 K F [sc, some (.own a), some (.int deep), x3, x4, x5, none, none, none, none, none, none, none, none, none, none, none, none, none, none, none, none, none, none] μ := by
  unfold t_law_k5
  (refine seq_step ?_; simp! only [rangeD_0])
  have hl : (List.map (fun i : Nat => D.int i) (List.range (deep : Int).toNat)).length ≤ lim := by rw [List.length_map, List.length_range]; unfold lim; omega
  have hs : small62 (deep : Int) := by unfold small62; omega
  refine ⟨hs, hl, lc_sides (xs := [2, 1, 3, 4, 20]) (fun _ _ _ => rfl) (by decide) (by decide) (by decide) b fun sides μ1 h1 b1 => ?_⟩
  exact ⟨hs, hl, lc_sides (xs := [1, 2, 5, 3]) (fun _ _ _ => rfl) (by decide) (by decide) (by decide) b1 fun others μ2 h2 b2 => h sides others μ2 h1 h2 b2⟩
end K80
/-! VL3 -/
namespace K80
open PySem PySem.Spec PyProof.Rows L2 L3
theorem IsInv.sq {n : Nat} {rows inv : List (List Int)} (h : IsInv n rows inv) : Sq n inv := ⟨h.len, h.row⟩
theorem PtsOk.pt {deep : Nat} {pts : List (List Int)} (h : PtsOk deep pts) : ∀ p ∈ pts, PtOk deep p := fun p hp => ⟨h.len p hp, h.sm p hp⟩
theorem gsOk {deep : Nat} {inv : List (List Int)} {sides : List Int} {pts : List (List Int)} (h4 : deep ≤ 4) (hq : Sq deep inv) (hs : SidesOk deep sides) (hp : ∀ p ∈ pts, PtOk deep p) (hl : pts.length ≤ 63) : GsOk (lawParts inv sides pts) := by
  refine ⟨Nat.le_trans lawParts_len (by omega), fun g hg => ?_⟩
  obtain ⟨h1, h2, h3⟩ := lawParts_mem hg
  refine ⟨?_, by omega, fun x hx => ?_⟩
  · cases e : g.2 with
    | nil => exact (h1 e).elim
    | cons x l =>
      obtain ⟨_, h5⟩ := h3 x (by rw [e]; exact List.mem_cons_self)
      rw [← h5, home_len hq hs]
      omega
  · rw [(hp x (h3 x hx).1).len]; omega
/-- the slots up to again -/
abbrev dl11 (sc : Option D) (a : Addr) (deep : Nat) (n : NestT) (rows inv : List (List Int)) (sides others : List Int) (pts : List (List Int)) (rest : De) : De :=
  [sc, some (.own a), some (.int deep), some (encN n), some (.lst (rows.map tI)), some (.lst (inv.map lI)), some (lI sides), some (lI others), none, some (.lst (pts.map tI)), some (.lst ((lawParts inv sides pts).map encG)), some (.lst ((lawParts inv others pts).map encG))] ++ rest
theorem vk67 {K : PySem.W.Frag} {F : DEnds} {a : Addr} {deep wide : Nat} {n : NestT} {rows inv : List (List Int)} {sides others : List Int} {sc : Option D} {μ : Mu} (h0 : 0 < deep) (h4 : deep ≤ 4) (w0 : 0 < wide) (w4 : wide ≤ 4) (hn : NestOk deep wide n) (hb : Bas deep rows) (hi : IsInv deep rows inv) (hs : SidesOk deep sides) (ho : SidesOk deep others) (b : BagAt μ a)
    (h : ∀ (pts : List (List Int)) (μ : Mu), Drawn K deep wide n rows inv sides others pts → BagAt μ a → t_law_k8 K F (dl11 sc a deep n rows inv sides others pts [none, none, none, none, none, none, none, none, none, none, none, none]) μ) :
    t_law_k6 K F [sc, some (.own a), some (.int deep), some (encN n), some (.lst (rows.map tI)), some (.lst (inv.map lI)), some (lI sides), some (lI others), none, none, none, none, none, none, none, none, none, none, none, none, none, none, none, none] μ := by
  unfold t_law_k6
  (refine seq_step ?_; simp! only [])
  refine ⟨by decide, of_ints (xs := [20, 35, 8, 1, 0, 60]) b (by decide) (by decide) fun x μ1 hx _ b1 => ?_⟩
  have : ∃ many : Nat, x = many ∧ many ≤ 60 := by
    simp at hx
    rcases hx with h | h | h | h | h | h
    · exact ⟨20, by omega, by omega⟩
    · exact ⟨35, by omega, by omega⟩
    · exact ⟨8, by omega, by omega⟩
    · exact ⟨1, by omega, by omega⟩
    · exact ⟨0, by omega, by omega⟩
    · exact ⟨60, by omega, by omega⟩
  obtain ⟨many, rfl, hm⟩ := this
  refine ⟨a, deep, many, rfl, b1, h0, h4, hm, fun pts μ2 hp _ b2 => ?_⟩
  unfold t_law_k7
  (refine seq_step ?_; simp! only [])
  refine ⟨deep, inv, sides, pts, rfl, h0, h4, hi.sq, hs, hp.few, hp.pt, ?_⟩
  exact ⟨deep, inv, others, pts, rfl, h0, h4, hi.sq, ho, hp.few, hp.pt, h pts μ2 ⟨h0, h4, w0, w4, hn, hb, hi, hs, ho, hp⟩ b2⟩
theorem perm_map {α β : Type} {f : α → β} {l m : List β} (p : l.Perm m) : ∀ xs : List α, m = xs.map f → ∃ ys : List α, l = ys.map f ∧ ys.Perm xs := by
  induction p with
  | nil => exact fun xs e => ⟨[], rfl, by rw [List.map_eq_nil_iff.mp e.symm]⟩
  | cons x _ ih =>
    intro xs e
    cases xs with
    | nil => cases e
    | cons a xs =>
      cases e
      obtain ⟨ys, e1, e2⟩ := ih xs rfl
      exact ⟨a :: ys, by rw [e1]; rfl, e2.cons a⟩
  | swap x y l =>
    intro xs e
    match xs, e with
    | a :: b :: t, rfl => exact ⟨b :: a :: t, rfl, .swap _ _ _⟩
  | trans _ _ ih1 ih2 =>
    intro xs e
    obtain ⟨ys, e1, p1⟩ := ih2 xs e
    obtain ⟨zs, e2, p2⟩ := ih1 ys e1
    exact ⟨zs, e2, p2.trans p1⟩
theorem sd_same {l m : List (List Int)} (h1 : l.Pairwise fun a b => ltL a b = true) (h2 : m.Pairwise fun a b => ltL a b = true) (h : ∀ x, x ∈ l ↔ x ∈ m) : l = m := by
  have f : ∀ {k : List (List Int)}, (k.Pairwise fun a b => ltL a b = true) → k.Pairwise fun a b => TotLt.le ltL a b = true := fun h => h.imp fun {a b} e => by
    unfold TotLt.le
    rw [ltL_tot.asym e]
    rfl
  have p := perm_of (sd_nodup h1) (sd_nodup h2) h
  exact (ltL_tot.uniq (List.Perm.refl l) (f h1)).symm.trans (ltL_tot.uniq p (f h2))
theorem BagAt.mset {μ : Mu} {a p : Addr} {o : MO} (h : BagAt μ a) (hp : a ≠ p) : BagAt (L3.mset μ p o) a := by
  obtain ⟨c, i, g, s, k, e, r⟩ := h
  exact ⟨c, i, g, s, k, by rw [mset_ne hp]; exact e, r⟩
/-- given, lot, cut, cross -/
theorem vk8 {K : PySem.W.Frag} {F : DEnds} {a : Addr} {deep wide : Nat} {n : NestT} {rows inv : List (List Int)} {sides others : List Int} {pts : List (List Int)} {sc : Option D} {μ : Mu} (d : Drawn K deep wide n rows inv sides others pts) (b : BagAt μ a)
    (h : ∀ (g : Option D) (μ : Mu), BagAt μ a → t_law_k12 K F (dl11 sc a deep n rows inv sides others pts [g, some (lotI K n pts), some (blockI K n rows sides inv), some (blockI K n rows others inv), none, none, none, none, none, none, none, none]) μ) :
    t_law_k8 K F (dl11 sc a deep n rows inv sides others pts [none, none, none, none, none, none, none, none, none, none, none, none]) μ := by
  have ng : NGood deep n := d.nest.good d.d0 d.d4 d.w0 d.w4
  have nl : n.1.length = deep := ng.ctrs.len
  have hfew := d.pts.few
  unfold t_law_k8 dl11
  (refine seq_step ?_; simp! only [])
  have hc : L3.cutD (pts.map tI) none (some 3) = (pts.take 3).map tI := by
    rw [List.map_take]
    exact cut_hi (pts.map tI) 3
  rw [hc, ← List.map_append]
  have hl : (pts ++ pts.take 3).length ≤ 63 := by rw [List.length_append, List.length_take]; omega
  refine ⟨by rw [List.length_map, List.length_map]; unfold lim; rw [List.length_take]; omega, a, (pts ++ pts.take 3).map tI, _, rfl, b, by omega, by rw [List.length_map]; omega, by rw [List.length_map]; omega, fun p ys μ1 rest hperm hyl hpa hp0 hp1 hold b1 => ?_⟩
  have hrest : rest = [] := by
    have h1 := hperm.length_eq
    rw [List.length_append, hyl, List.length_map, List.length_map, List.length_append, List.length_take] at h1
    have : rest.length = 0 := by omega
    exact List.length_eq_zero_iff.mp this
  subst hrest
  rw [List.append_nil] at hperm
  obtain ⟨given, hg1, hg2⟩ : ∃ given : List (List Int), ys = given.map tI ∧ given.Perm (pts ++ pts.take 3) := perm_map hperm _ rfl
  subst hg1
  have gmem : ∀ x, x ∈ given ↔ x ∈ pts := fun x => by
    rw [hg2.mem_iff, List.mem_append]
    exact ⟨fun z => z.elim id (List.mem_of_mem_take), .inl⟩
  unfold t_law_k9
  (refine seq_step ?_; simp! only [])
  refine ⟨deep, n, rfl, ng, ?_⟩
  intro q hq
  have pq : p ≠ q := fun e => by rw [e, hq] at hp1; cases hp1
  have glen : given.length ≤ 63 := by rw [hg2.length_eq]; exact hl
  refine ⟨q, deep, n, .own p, given, rfl, .inr ⟨p, rfl, by rw [mset_ne pq]; exact hp1⟩, nl, d.d0, d.d4, glen, fun x hx => d.pts.pt x ((gmem x).mp hx), mset_same, fun lp hlp hm => ?_⟩
  have elp : lp = pts := sd_same hlp.sd d.pts.sd fun x => (hm x).trans (gmem x)
  subst elp
  refine ⟨rfl, _, mset_same, ?_⟩
  rw [mset_mset, mdel_mset hq]
  unfold t_law_k10
  (refine seq_step ?_; simp! only [tyD_own hp1, hp1])
  have b2 : BagAt (mset μ1 p (.lst [])) a := b1.mset (Ne.symm hpa)
  generalize mset μ1 p (.lst []) = μ2 at b2 ⊢
  unfold t_law_k11
  (refine seq_step ?_; simp! only [])
  refine ⟨deep, n, rfl, ng, _, rfl, fun q1 h1 => ⟨q1, deep, n, rows, sides, rfl, nl, d.bas, d.sides, mset_same, fun inv1 hi1 => ?_⟩⟩
  have e1 : inv1 = inv := IsInv.unique d.bas hi1 d.inv
  subst e1
  refine ⟨rfl, _, mset_same, ?_⟩
  rw [mset_mset, mdel_mset h1]
  refine ⟨deep, n, rfl, ng, _, rfl, fun q2 h2 => ⟨q2, deep, n, rows, others, rfl, nl, d.bas, d.others, mset_same, fun inv2 hi2 => ?_⟩⟩
  have e2 : inv2 = inv1 := IsInv.unique d.bas hi2 hi1
  subst e2
  refine ⟨rfl, _, mset_same, by decide, ?_⟩
  rw [mset_mset, mdel_mset h2]
  exact h _ _ b2
/-- what of a lot and a block parts asks -/
structure PartIn (deep : Nat) (n m : NestT) (inv : List (List Int)) (sides : List Int) (pts : List (List Int)) : Prop where
  txt : nestTxt n = nestTxt m
  len : m.1.length = deep
  d0 : 0 < deep
  d4 : deep ≤ 4
  sq : Sq deep inv
  sides : SidesOk deep sides
  pts : LotOk deep pts
/-- what stood stays -/
def Kp (μ μ' : Mu) : Prop := ∀ b, μ b ≠ none → μ' b = μ b
theorem Kp.trans {μ μ1 μ2 : Mu} (h : Kp μ μ1) (k : Kp μ1 μ2) : Kp μ μ2 := fun b hb => (k b (by rw [h b hb]; exact hb)).trans (h b hb)
theorem BagAt.kp {μ μ' : Mu} {a : Addr} (b : BagAt μ a) (k : Kp μ μ') : BagAt μ' a := b.of (k a (by
  obtain ⟨_, _, _, _, _, e, _⟩ := b
  rw [e]
  simp))
theorem Told.kp {μ μ' : Mu} {p : Addr} {qs : List Addr} {gs : List (RowI × List RowI)} (t : Told μ μ' p qs gs) : Kp μ μ' := fun b hb => t.old b fun z => hb (t.new b z)
theorem ToldAt.kp {μ μ' : Mu} {p : Addr} {qs : List Addr} {gs : List (RowI × List RowI)} (t : ToldAt μ p qs gs) (k : Kp μ μ') : ToldAt μ' p qs gs := by
  obtain ⟨h1, h2, h3⟩ := t
  refine ⟨by rw [k p (by rw [h1]; simp)]; exact h1, h2, fun i g q e1 e2 => ?_⟩
  have := h3 i g q e1 e2
  rw [k q (by rw [this]; simp)]
  exact this
/-- parts(..) is told as due -/
theorem same_parts {K : PySem.W.Frag} {deep : Nat} {n m : NestT} {rows inv : List (List Int)} {sides : List Int} {pts : List (List Int)} {gs : List (RowI × List RowI)} {μ : Mu} {P : D → Mu → Prop} (p : PartIn deep n m inv sides pts) (e : lawParts inv sides pts = gs)
    (h : ∀ μ', Kp μ μ' → P (.bl true) μ') : sp_parts K [lotI K n pts, blockI K m rows sides inv] μ fun d μ1 => sp__law_same K [d, .lst (gs.map encG)] μ1 P := by
  subst e
  refine ⟨deep, n, m, rows, sides, inv, pts, rfl, p.txt, p.len, p.d0, p.d4, p.sq, p.sides, p.pts, fun q qs μ1 t => ?_⟩
  have ok := gsOk p.d4 p.sq p.sides p.pts.pt p.pts.few
  exact ⟨_, _, _, rfl, deep_told (n := 2) ok t, deep_due ok, h μ1 t.kp⟩
end K80
/-! VL4 -/
namespace K80
open PySem PySem.Spec PyProof.Rows L2 L3
section
variable {K : PySem.W.Frag} {F : DEnds} {a : Addr} {deep wide : Nat} {n : NestT} {rows inv : List (List Int)} {sides others : List Int} {pts : List (List Int)} {sc g x16 x17 : Option D} {μ : Mu}
theorem Drawn.lot (d : Drawn K deep wide n rows inv sides others pts) : LotOk deep pts := ⟨d.pts.pt, by have := d.pts.few; omega, d.pts.sd⟩
theorem Drawn.good (d : Drawn K deep wide n rows inv sides others pts) : NGood deep n := d.nest.good d.d0 d.d4 d.w0 d.w4
theorem Drawn.part (d : Drawn K deep wide n rows inv sides others pts) : PartIn deep n n inv sides pts := ⟨rfl, d.good.ctrs.len, d.d0, d.d4, d.inv.sq, d.sides, d.lot⟩
theorem Drawn.partO (d : Drawn K deep wide n rows inv sides others pts) : PartIn deep n n inv others pts := ⟨rfl, d.good.ctrs.len, d.d0, d.d4, d.inv.sq, d.others, d.lot⟩
/-- the slots up to cross -/
abbrev dl15 (K : PySem.W.Frag) (sc : Option D) (a : Addr) (deep : Nat) (n : NestT) (rows inv : List (List Int)) (sides others : List Int) (pts : List (List Int)) (g : Option D) (rest : De) : De :=
  dl11 sc a deep n rows inv sides others pts ([g, some (lotI K n pts), some (blockI K n rows sides inv), some (blockI K n rows others inv)] ++ rest)
theorem vk12 (d : Drawn K deep wide n rows inv sides others pts) (b : BagAt μ a)
    (h : ∀ (x16 x17 : Option D) (μ : Mu), BagAt μ a → t_law_k16 K F (dl15 K sc a deep n rows inv sides others pts g [x16, x17, none, none, none, none, none, none]) μ) :
    t_law_k12 K F (dl15 K sc a deep n rows inv sides others pts g [none, none, none, none, none, none, none, none]) μ := by
  unfold t_law_k12 dl15 dl11
  (refine seq_step ?_; simp! only [])
  have p := d.part
  refine ⟨deep, n, n, rows, sides, inv, pts, rfl, p.txt, p.len, p.d0, p.d4, p.sq, p.sides, p.pts, fun q qs μ1 t => ?_⟩
  have ok := gsOk p.d4 p.sq p.sides p.pts.pt p.pts.few
  have b1 := b.kp t.kp
  unfold t_law_k13
  (refine seq_step ?_; simp! only [])
  refine ⟨_, _, _, rfl, deep_told (n := 2) ok t, deep_due ok, true, .bl true, ?_⟩
  rw [if_neg (by simp)]
  refine same_parts d.partO rfl fun μ2 k2 => ⟨true, .bl true, ?_⟩
  rw [if_neg (by simp)]
  have b2 := b1.kp k2
  have t2 := t.at_.kp k2
  have hpf := d.pts.few
  refine ⟨deep, n, rows, sides, inv, lawParts inv sides pts, rfl, p.len, p.d4, p.sq, p.sides, ok.few, fun y hy => ?_, true, .bl true, ?_⟩
  · obtain ⟨y1, y2, y3⟩ := lawParts_mem hy
    exact ⟨by omega, fun x hx => ⟨d.pts.pt x (y3 x hx).1, (y3 x hx).2⟩⟩
  rw [if_neg (by simp)]
  have hqa : a ∉ q :: qs := fun z => by
    obtain ⟨_, _, _, _, _, e, _⟩ := b
    rw [t.new a z] at e
    cases e
  have aq : a ≠ q := fun e => hqa (by rw [e]; exact List.mem_cons_self)
  obtain ⟨ta, tl, te⟩ := t2
  unfold t_law_k14
  refine seq_step ?_
  simp! only [truD_own ta]
  have fin : ∀ (x17 : Option D) (μ3 : Mu) ds, BagAt μ3 a → μ3 q = some (.lst ds) → ds.length ≤ lim → t_law_k15 K F (dl15 K sc a deep n rows inv sides others pts g [some (.own q), x17, none, none, none, none, none, none]) μ3 := fun x17 μ3 ds b3 e3 e4 => by
    unfold t_law_k15 dl15 dl11
    (refine seq_step ?_; simp! only [tyD_own e3, e3])
    exact ⟨e4, h _ _ _ (b3.mset aq)⟩
  have hzl : (List.zipWith (fun (g : RowI × List RowI) (q : Addr) => D.tup [tI g.fst, D.own q]) (lawParts inv sides pts) qs).length ≤ 100 := by
    rw [List.length_zipWith]
    have := ok.few
    omega
  cases hz : (List.zipWith (fun (g : RowI × List RowI) (q : Addr) => D.tup [tI g.fst, D.own q]) (lawParts inv sides pts) qs).isEmpty with
  | true =>
    rw [if_neg (by simp)]
    exact fin _ _ _ b2 ta (by unfold lim; omega)
  | false =>
    rw [if_pos (by simp)]
    obtain ⟨zs', z, ez⟩ : ∃ zs' z, List.zipWith (fun (g : RowI × List RowI) (q : Addr) => D.tup [tI g.fst, D.own q]) (lawParts inv sides pts) qs = zs' ++ [z] := by
      refine ⟨_, _, (List.dropLast_concat_getLast (by
        intro e
        rw [e] at hz
        cases hz)).symm⟩
    have hi : (List.zipWith (fun (g : RowI × List RowI) (q : Addr) => D.tup [tI g.fst, D.own q]) (lawParts inv sides pts) qs)[zs'.length]? = some z := by rw [ez]; simp
    rw [List.getElem?_zipWith] at hi
    cases hg1 : (lawParts inv sides pts)[zs'.length]? with
    | none => rw [hg1] at hi; cases hi
    | some y =>
      cases hq1 : qs[zs'.length]? with
      | none => rw [hg1, hq1] at hi; cases hi
      | some u =>
        rw [hg1, hq1] at hi
        cases hi
        have eu := te _ y u hg1 hq1
        have um := List.mem_of_getElem? hq1
        have uq : u ≠ q := fun e => by
          have nd := t.nd
          rw [List.nodup_cons] at nd
          exact nd.1 (e ▸ um)
        have au : a ≠ u := fun e => hqa (by rw [e]; exact List.mem_cons_of_mem _ um)
        obtain ⟨y1, y2, y3⟩ := lawParts_mem (List.mem_of_getElem? hg1)
        obtain ⟨x, l, ey⟩ : ∃ x l, y.2 = x :: l := by
          cases e : y.2 with
          | nil => exact (y1 e).elim
          | cons x l => exact ⟨x, l, rfl⟩
        rw [ez] at ta
        have el : itemD μ2 (.own q) (-1) = some (D.tup [tI y.1, .own u]) := by rw [itemD_own ta]; exact atI_last
        refine seq_step ?_
        simp! only [el]
        rw [ey] at eu
        have ei : itemD μ2 (.own u) 0 = some (tI x) := by rw [itemD_own eu]; exact at_0
        simp! only [tyD_own eu, ei, eu]
        rw [ey, List.length_cons] at y2
        rw [ez] at hzl
        exact ⟨by rw [List.length_map]; unfold lim; omega, fin _ _ _ (b2.mset au) (by rw [mset_ne (Ne.symm uq)]; exact ta) (by unfold lim; omega)⟩
end
end K80
/-! VL5 -/
namespace K80
open PySem PySem.Spec PyProof.Rows L2 L3
section
variable {K : PySem.W.Frag} {F : DEnds} {a : Addr} {deep wide : Nat} {n : NestT} {rows inv : List (List Int)} {sides others : List Int} {pts ss qs : List (List Int)} {sc g x16 x17 x20 : Option D} {μ : Mu}
/-- what was picked, the part's points -/
structure Picked (deep : Nat) (pts ss qs : List (List Int)) : Prop where
  sub : ∀ x ∈ ss, x ∈ pts
  nd : ss.Nodup
  len : ss.length ≤ 60
  lot : LotOk deep qs
  mem : ∀ x, x ∈ qs ↔ x ∈ ss
theorem vk16 (d : Drawn K deep wide n rows inv sides others pts) (b : BagAt μ a)
    (h : ∀ (ss qs : List (List Int)) (μ : Mu), Picked deep pts ss qs → BagAt μ a → t_law_k19 K F (dl15 K sc a deep n rows inv sides others pts g [x16, x17, some (.lst (ss.map tI)), some (lotI K n qs), none, none, none, none]) μ) :
    t_law_k16 K F (dl15 K sc a deep n rows inv sides others pts g [x16, x17, none, none, none, none, none, none]) μ := by
  have hpf := d.pts.few
  unfold t_law_k16 dl15 dl11
  (refine seq_step ?_; simp! only [])
  refine same_parts d.part rfl fun μ1 k1 => ⟨true, .bl true, ?_⟩
  rw [if_neg (by simp)]
  refine same_parts d.partO rfl fun μ2 k2 => ⟨true, .bl true, ?_⟩
  rw [if_neg (by simp)]
  have b2 := (b.kp k1).kp k2
  unfold t_law_k17
  (refine seq_step ?_; simp! only [])
  refine ⟨a, ((pts.length + 1 : Nat) : Int), by simp, b2, by omega, by omega, fun r μ3 c3 b3 r0 r1 => ?_⟩
  refine ⟨a, pts.map tI, r, rfl, b3, r0, by omega, by rw [List.length_map]; omega, fun p ys μ4 rest hperm hyl hpa hp0 hp1 hold b4 => ?_⟩
  obtain ⟨zs, hz1, hz2⟩ := perm_map hperm _ rfl
  obtain ⟨ss, rs, hs1, hs2, hs3⟩ : ∃ ss rs : List (List Int), zs = ss ++ rs ∧ ys = ss.map tI ∧ rest = rs.map tI := by
    obtain ⟨l1, l2, e1, e2, e3⟩ := List.map_eq_append_iff.mp hz1.symm
    exact ⟨l1, l2, e1, e2.symm, e3.symm⟩
  subst hs1 hs2 hs3
  have ndz : (ss ++ rs).Nodup := hz2.nodup_iff.mpr (sd_nodup d.pts.sd)
  have sub : ∀ x ∈ ss, x ∈ pts := fun x hx => hz2.mem_iff.mp (List.mem_append_left _ hx)
  have slen : ss.length ≤ 60 := by
    have := hz2.length_eq
    rw [List.length_append] at this
    omega
  unfold t_law_k18
  (refine seq_step ?_; simp! only [hp1])
  refine ⟨deep, n, rfl, d.good, ?_⟩
  intro q hq
  have b5 : BagAt (mdel μ4 p) a := b4.of (mdel_ne (Ne.symm hpa))
  generalize mdel μ4 p = μ5 at b5 hq ⊢
  refine ⟨q, deep, n, .lst (ss.map tI), ss, rfl, .inl rfl, d.good.ctrs.len, d.d0, d.d4, by omega, fun x hx => d.pts.pt x (sub x hx), mset_same, fun lp hlp hm => ?_⟩
  refine ⟨rfl, _, mset_same, ?_⟩
  rw [mset_mset, mdel_mset hq]
  exact h ss lp μ5 ⟨sub, (List.nodup_append.mp ndz).1, slen, hlp, hm⟩ b5
theorem LotOk.filter {l : List (List Int)} (h : LotOk deep l) (p : List Int → Bool) : LotOk deep (l.filter p) :=
  ⟨fun x hx => h.pt x (List.mem_filter.mp hx).1, Nat.le_trans (List.length_filter_le _ _) h.few, h.sd.filter _⟩
theorem insD_lot {μ : Mu} : insD μ (lotI K n pts) = some (aLot K, lotF K n pts) := rfl
theorem shaped_Ts (l : List (List Int)) : SeqAt.shaped (.list (l.map pyT)) = true := by
  unfold SeqAt.shaped
  rw [Bool.and_eq_true]
  have h1 : ∀ l : List (List Int), PyData.canLayAll0 (l.map pyT) = true := fun l => by
    induction l with
    | nil => rfl
    | cons x l ih =>
      rw [List.map_cons, PyData.canLayAll0, ih]
      have := SeqAt.canLay_of_shaped (shaped_T x)
      rw [this]
      rfl
  have h2 : ∀ l : List (List Int), PyData.depthAll (l.map pyT) ≤ 3 := fun l => by
    induction l with
    | nil => simp [PyData.depthAll]
    | cons x l ih =>
      have := depth_T x
      simp only [List.map_cons, PyData.depthAll]
      omega
  refine ⟨by rw [PyData.canLay0]; exact h1 l, ?_⟩
  have := h2 l
  rw [decide_eq_true_eq, PyData.depth]
  omega
theorem notin_tI {μ : Mu} {x : List Int} {ys : List (List Int)} {P : D → Mu → Prop} (h : P (.bl (decide (x ∉ ys))) μ) : gInD true (tI x) (.lst (ys.map tI)) μ P := by
  have e1 : toPyM μ (tI x) = some (pyT x) := toPy_tI x
  have e2 : toPyM μ (.lst (ys.map tI)) = some (.list (ys.map pyT)) := by
    show toPy (.lst _) = _
    simp only [toPy, toPyL_map toPy_tI, Option.map_some]
  refine ⟨_, _, e1, e2, shaped_T x, shaped_Ts ys, ?_⟩
  have : (ys.map pyT).any (fun z => PyData.eqv z (pyT x)) = decide (x ∈ ys) := by
    rw [Bool.eq_iff_iff]
    simp only [List.any_eq_true, List.mem_map, decide_eq_true_eq]
    constructor
    · rintro ⟨_, ⟨y, hy, rfl⟩, hz⟩
      rw [eqv_T] at hz
      rw [← of_decide_eq_true hz]
      exact hy
    · intro hx
      exact ⟨_, ⟨x, hx, rfl⟩, by rw [eqv_T]; simp⟩
  rw [if_pos rfl, this, ← decide_not]
  exact h
theorem vk19 (d : Drawn K deep wide n rows inv sides others pts) (pk : Picked deep pts ss qs) (b : BagAt μ a)
    (h : ∀ (μ : Mu), BagAt μ a → t_law_k20 K F (dl15 K sc a deep n rows inv sides others pts g [x16, x17, some (.lst (ss.map tI)), some (lotI K n qs), none, none, none, none]) μ) :
    t_law_k19 K F (dl15 K sc a deep n rows inv sides others pts g [x16, x17, some (.lst (ss.map tI)), some (lotI K n qs), none, none, none, none]) μ := by
  have hpf := d.pts.few
  unfold t_law_k19 dl15 dl11
  (refine seq_step ?_; simp! only [gOwn, insD_lot])
  refine ⟨deep, n, n, pts, qs, rfl, rfl, d.good.ctrs.len, d.d0, d.d4, d.lot, pk.lot, ?_⟩
  have p : PartIn deep n n inv sides (pts.filter fun x => x ∉ qs) := ⟨rfl, d.good.ctrs.len, d.d0, d.d4, d.inv.sq, d.sides, d.lot.filter _⟩
  refine ⟨deep, n, n, rows, sides, inv, _, rfl, p.txt, p.len, p.d0, p.d4, p.sq, p.sides, p.pts, fun q us μ1 t => ?_⟩
  have b1 := b.kp t.kp
  have ok := gsOk p.d4 p.sq p.sides p.pts.pt p.pts.few
  refine ⟨by rw [List.length_map]; unfold lim; omega, lcD_if tI tI (fun x => decide (x ∉ ss)) trivial (fun x hx Ry Rn h1 h2 => ?_) ?_⟩
  · simp! only []
    refine notin_tI ?_
    refine ⟨_, rfl, ?_⟩
    cases e : decide (x ∉ ss) with
    | true => rw [e] at h1; rw [if_pos rfl]; exact h1 _ rfl
    | false => rw [e] at h2; rw [if_neg (by simp)]; exact h2 rfl
  · rw [List.nil_append]
    have ef : (pts.filter fun x => decide (x ∉ ss)) = pts.filter fun x => decide (x ∉ qs) := List.filter_congr fun x _ => by
      have := pk.mem x
      by_cases e : x ∈ ss <;> simp [e, this]
    rw [ef]
    refine ⟨deep, inv, sides, pts.filter fun x => decide (x ∉ qs), rfl, d.d0, d.d4, d.inv.sq, d.sides, Nat.le_trans (List.length_filter_le _ _) hpf, p.pts.pt, ?_⟩
    refine ⟨_, _, _, rfl, deep_told (n := 2) ok t, deep_due ok, true, .bl true, ?_⟩
    rw [if_neg (by simp)]
    exact h _ b1
theorem vk20 (d : Drawn K deep wide n rows inv sides others pts) (pk : Picked deep pts ss qs) (b : BagAt μ a)
    (h : ∀ (m : NestT) (μ : Mu), NGood deep m → nestTxt m ≠ nestTxt n → BagAt μ a → t_law_k22 K F (dl15 K sc a deep n rows inv sides others pts g [x16, x17, some (.lst (ss.map tI)), some (lotI K n qs), none, some (encN m), none, none]) μ) :
    t_law_k20 K F (dl15 K sc a deep n rows inv sides others pts g [x16, x17, some (.lst (ss.map tI)), some (lotI K n qs), none, none, none, none]) μ := by
  have hpf := d.pts.few
  unfold t_law_k20 dl15 dl11
  (refine seq_step ?_; simp! only [gOwn, insD_lot])
  refine ⟨deep, n, n, pts, qs, rfl, rfl, d.good.ctrs.len, d.d0, d.d4, d.lot, pk.lot, ?_⟩
  have p : PartIn deep n n inv others (pts.filter fun x => x ∈ qs) := ⟨rfl, d.good.ctrs.len, d.d0, d.d4, d.inv.sq, d.others, d.lot.filter _⟩
  refine ⟨deep, n, n, rows, others, inv, _, rfl, p.txt, p.len, p.d0, p.d4, p.sq, p.sides, p.pts, fun q us μ1 t => ?_⟩
  have b1 := b.kp t.kp
  have ok := gsOk p.d4 p.sq p.sides p.pts.pt p.pts.few
  have ep : lawParts inv others ss = lawParts inv others (pts.filter fun x => x ∈ qs) := lawParts_perm (perm_of pk.nd ((sd_nodup d.pts.sd).filter _) fun x => by
    rw [List.mem_filter, decide_eq_true_eq, pk.mem x]
    exact ⟨fun hx => ⟨pk.sub x hx, hx⟩, fun hx => hx.2⟩)
  refine ⟨deep, inv, others, ss, rfl, d.d0, d.d4, d.inv.sq, d.others, pk.len, fun x hx => d.pts.pt x (pk.sub x hx), ?_⟩
  rw [ep]
  refine ⟨_, _, _, rfl, deep_told (n := 2) ok t, deep_due ok, true, .bl true, ?_⟩
  rw [if_neg (by simp)]
  refine same_parts d.part rfl fun μ2 k2 => ⟨true, .bl true, ?_⟩
  rw [if_neg (by simp)]
  have b2 := b1.kp k2
  unfold t_law_k21
  (refine seq_step ?_; simp! only [])
  exact ⟨a, deep, wide, n, rfl, b2, d.nest, d.d0, d.d4, d.w0, d.w4, fun m μ3 ng ne _ b3 => h m μ3 ng ne b3⟩
theorem vk22 {m : NestT} {x19 : Option D} (d : Drawn K deep wide n rows inv sides others pts) (ng : NGood deep m) (ne : nestTxt m ≠ nestTxt n) (hF : ∀ δ μ, LawMid K δ → F.nx δ μ) :
    t_law_k22 K F (dl15 K sc a deep n rows inv sides others pts g [x16, x17, some (.lst (ss.map tI)), x19, x20, some (encN m), none, none]) μ := by
  have hpf := d.pts.few
  unfold t_law_k22 dl15 dl11
  (refine seq_step ?_; simp! only [])
  refine ⟨deep, m, rfl, ng, _, rfl, fun q1 h1 => ⟨q1, deep, m, rows, sides, rfl, ng.ctrs.len, d.bas, d.sides, mset_same, fun inv1 hi1 => ?_⟩⟩
  have e1 : inv1 = inv := IsInv.unique d.bas hi1 d.inv
  subst e1
  refine ⟨rfl, _, mset_same, ?_⟩
  rw [mset_mset, mdel_mset h1]
  refine ⟨deep, m, rfl, ng, ?_⟩
  intro q2 h2
  refine ⟨q2, deep, m, .lst (pts.map tI), pts, rfl, .inl rfl, ng.ctrs.len, d.d0, d.d4, by omega, d.pts.pt, mset_same, fun lp hlp hm => ?_⟩
  refine ⟨rfl, _, mset_same, by decide, ?_⟩
  rw [mset_mset, mdel_mset h2]
  have elp : lp = pts := sd_same hlp.sd d.pts.sd hm
  subst elp
  refine hF _ _ ⟨deep, n, m, rows, sides, inv1, lp, lp, lawParts inv1 sides lp, rfl, rfl, rfl, rfl, rfl, ne, d.good.ctrs.len, ng.ctrs.len, d.d0, d.d4, d.inv.sq, d.sides, d.lot, d.lot, rfl, rfl, gsOk d.d4 d.inv.sq d.sides d.pts.pt (by omega)⟩
end
/-- law, ahead of the lambdas -/
theorem vc_law1 {K : PySem.W.Frag} {cells : List Int} {F : DEnds} (hF : ∀ δ μ, LawMid K δ → F.nx δ μ) : t_law1 K F (startD N_law.length [.fz (cells.map .int)]) (fun _ => none) :=
  vk01 fun a deep μ h0 h4 b => vk2 h0 h4 b fun wide n μ w0 w4 hn b => vk3 h0 h4 b fun rows inv μ hb hi b => vk5 h0 h4 b fun sides others μ hs ho b => vk67 h0 h4 w0 w4 hn hb hi hs ho b fun pts μ d b => vk8 d b fun g μ b =>
    vk12 d b fun x16 x17 μ b => vk16 d b fun ss qs μ pk b => vk19 d pk b fun μ b => vk20 d pk b fun m μ ng ne b => vk22 d ng ne hF
/-- law, behind the lambdas -/
theorem vc_law2 {K : PySem.W.Frag} {F : DEnds} {δ : De} {μ : Mu} (h : LawMid K δ) (hr : ∀ μ', F.rt (.bl true) μ') : t_law2 K F δ μ := by
  obtain ⟨deep, n, m, rows, sides, inv, pts, pts2, gs, e13, e14, e22, e23, e10, ne, nl, ml, d0, d4, sq, hs, l1, l2, g1, g2, ok⟩ := h
  unfold t_law2
  simp! only [e13, e14, e22, e23, e10]
  refine same_parts ⟨rfl, ml, d0, d4, sq, hs, l2⟩ g2 fun μ1 _ => ?_
  refine ⟨true, rfl, ?_⟩
  rw [if_pos rfl]
  exact same_parts ⟨rfl, nl, d0, d4, sq, hs, l1⟩ g1 fun μ2 _ => hr μ2
end K80
/-! K80D0 -/
namespace K80
open PySem PySem.Spec PyProof.Rows L2 L3
section
variable {Pg : Program} {w : World} {K : PySem.W.Frag} {mg : Str → Option Value} {base : Heap}
theorem sc__law_bag : FnScope N__law_bag p__law_bag d__law_bag.scope := ⟨rfl, rfl, rfl, by decide +kernel, rfl, by decide +kernel, by decide +kernel⟩
theorem der__law_bag (T : Tp facts defs exOk K mg)  : ∀ (cdv : Value) (A : Around) (outer : List PySem.Env) (s : Shared) (H : Hp) (E : XK), Room 0 (A.deeper (envOfC d__law_bag.qual d__law_bag.scope s.heap.objs.size (He.fAd K d__law_bag.at_) cdv)) →
    DSs (cxOf CX0 Pg w K mg base N__law_bag d__law_bag.qual d__law_bag.scope (He.fAd K d__law_bag.at_) cdv A outer s H E).nox d__law_bag.body (t__law_bag K) := fun cdv A outer s H E hr =>
  (dss_cons (ds_set (i := 1) sc__law_bag.nd rfl (by first | exact .inl rfl | exact .inr rfl) de_int)
    (dss_cons (ds_for PassesOwn.never rfl (di_seq (de_slice (dv 0) do_none (do_some de_int))) (dg_name (i := 2) sc__law_bag.nd rfl (by first | exact .inl rfl | exact .inr rfl)) (dss_one (ds_set (i := 1) sc__law_bag.nd rfl (by first | exact .inl rfl | exact .inr rfl) (de_op op_mod od_mod (de_callTy call_int1 cd_int1 (by rfl) (T.free 1) boot_int (da_cons (de_op op_plus od_plus (de_op op_plus od_plus (de_op op_mulX od_mulX (dv 1) de_int) (de_op op_mulX od_mulX (de_op op_mod od_mod (de_callTy call_int1 cd_int1 (by rfl) (T.free 1) boot_int (da_cons (dv 2) da_nil)) de_int) de_int)) de_int) da_nil)) de_int))))
    (dss_one (ds_ret (de_lstM (da_cons (de_callTy call_list_of cd_list (by rfl) (T.free 0) boot_list (da_cons (de_slice (dv 0) do_none (do_some de_int)) da_nil)) (da_cons de_int (da_cons de_int (da_cons (dv 1) (da_cons de_int da_nil))))))))))
theorem sc__law_draw : FnScope N__law_draw p__law_draw d__law_draw.scope := ⟨rfl, rfl, rfl, by decide +kernel, rfl, by decide +kernel, by decide +kernel⟩
theorem der__law_draw (T : Tp facts defs exOk K mg)  : ∀ (cdv : Value) (A : Around) (outer : List PySem.Env) (s : Shared) (H : Hp) (E : XK), Room 0 (A.deeper (envOfC d__law_draw.qual d__law_draw.scope s.heap.objs.size (He.fAd K d__law_draw.at_) cdv)) →
    DSs (cxOf CX0 Pg w K mg base N__law_draw d__law_draw.qual d__law_draw.scope (He.fAd K d__law_draw.at_) cdv A outer s H E).nox d__law_draw.body (t__law_draw K) := fun cdv A outer s H E hr =>
  (dss_cons (ds_setI (dv 0) de_int (de_op op_plus od_plus (de_ix (dv 0) de_int) de_int))
    (dss_cons (ds_if (PW.pt (dw_and (dt_cmp op_eq od_eq (de_ix (dv 0) de_int) de_int (by first | rfl | exact nobehind _ (by decide) (by decide))) (dw_and1 (dt_cmp op_lt od_lt (de_ix (dv 0) de_int) (de_callB call_lenAll cd_len (by rfl) (T.free 2) boot_len (da_cons (de_ix (dv 0) de_int) da_nil)) (by first | rfl | exact nobehind _ (by decide) (by decide)))))) (dss_cons (ds_set (i := 2) sc__law_draw.nd rfl (by first | exact .inl rfl | exact .inr rfl) (de_callTy call_int1 cd_int1 (by rfl) (T.free 1) boot_int (da_cons (de_ix (de_ix (dv 0) de_int) (de_ix (dv 0) de_int)) da_nil)))
    (dss_cons (ds_setI (dv 0) de_int (de_op op_plus od_plus (de_ix (dv 0) de_int) de_int))
    (dss_one (ds_if (dt_cmp op_ge od_ge (de_callB call_abs cd_abs (by rfl) (T.free 3) boot_abs (da_cons (dv 2) da_nil)) (de_op op_pow od_pow de_int de_int) (by first | rfl | exact nobehind _ (by decide) (by decide))) (dss_one (ds_setI (dv 0) de_int (de_callB call_abs cd_abs (by rfl) (T.free 3) boot_abs (da_cons (dv 2) da_nil)))) (dss_one (ds_setI (dv 0) de_int (de_op op_mod od_mod (de_callTy call_int1 cd_int1 (by rfl) (T.free 1) boot_int (da_cons (de_op op_plus od_plus (de_op op_plus od_plus (de_op op_mulX od_mulX (de_ix (dv 0) de_int) de_int) (de_op op_mulX od_mulX (de_op op_mod od_mod (de_callTy call_int1 cd_int1 (by rfl) (T.free 1) boot_int (da_cons (dv 2) da_nil)) de_int) de_int)) de_int) da_nil)) de_int))))))) dss_nil)
    (dss_cons (ds_if (dt_cmp op_gt od_gt (de_ix (dv 0) de_int) de_int (by first | rfl | exact nobehind _ (by decide) (by decide))) (dss_cons (ds_set (i := 3) sc__law_draw.nd rfl (by first | exact .inl rfl | exact .inr rfl) (de_op op_mod od_mod (de_callTy call_int1 cd_int1 (by rfl) (T.free 1) boot_int (da_cons (de_ix (dv 0) de_int) da_nil)) (dv 1)))
    (dss_cons (ds_setI (dv 0) de_int (de_op op_fdivX od_divX (de_ix (dv 0) de_int) (dv 1)))
    (dss_one (ds_ret (dv 3))))) dss_nil)
    (dss_cons (ds_set (i := 4) sc__law_draw.nd rfl (by first | exact .inl rfl | exact .inr rfl) (de_callTy call_int1 cd_int1 (by rfl) (T.free 1) boot_int (da_cons (de_ix (dv 0) de_int) da_nil)))
    (dss_cons (ds_setI (dv 0) de_int (de_op op_mod od_mod (de_callTy call_int1 cd_int1 (by rfl) (T.free 1) boot_int (da_cons (de_op op_plus od_plus (de_op op_plus od_plus (de_op op_plus od_plus (de_op op_mulX od_mulX (de_op op_mulX od_mulX (dv 4) (dv 4)) de_int) (de_op op_mulX od_mulX (dv 4) de_int)) (de_op op_mulX od_mulX (de_ix (dv 0) de_int) de_int)) de_int) da_nil)) de_int))
    (dss_one (ds_ret (de_op op_mod od_mod (de_callTy call_int1 cd_int1 (by rfl) (T.free 1) boot_int (da_cons (de_op op_plus od_plus (de_op op_fdivX od_divX (de_ix (dv 0) de_int) de_int) (de_op op_mulX od_mulX (de_op op_mod od_mod (de_callTy call_int1 cd_int1 (by rfl) (T.free 1) boot_int (da_cons (de_ix (dv 0) de_int) da_nil)) de_int) de_int)) da_nil)) (dv 1)))))))))
theorem sc__law_of : FnScope N__law_of p__law_of d__law_of.scope := ⟨rfl, rfl, rfl, by decide +kernel, rfl, by decide +kernel, by decide +kernel⟩
theorem der__law_of (T : Tp facts defs exOk K mg) (F__law_draw : GDef Pg w K mg base k__law_draw (He.fAd K d__law_draw.at_) p__law_draw (sp__law_draw K)) : ∀ (cdv : Value) (A : Around) (outer : List PySem.Env) (s : Shared) (H : Hp) (E : XK), Room 1 (A.deeper (envOfC d__law_of.qual d__law_of.scope s.heap.objs.size (He.fAd K d__law_of.at_) cdv)) →
    DSs (cxOf CX0 Pg w K mg base N__law_of d__law_of.qual d__law_of.scope (He.fAd K d__law_of.at_) cdv A outer s H E).nox d__law_of.body (t__law_of K) := fun cdv A outer s H E hr =>
  (dss_one (ds_ret (de_ix (dv 1) (de_callG F__law_draw (hr.mono (by decide)) (T.glo 4) (da_cons (dv 0) (da_cons (de_callB call_lenAll cd_len (by rfl) (T.free 2) boot_len (da_cons (dv 1) da_nil)) da_nil))))))
theorem sc__law_pick : FnScope N__law_pick p__law_pick d__law_pick.scope := ⟨rfl, rfl, rfl, by decide +kernel, rfl, by decide +kernel, by decide +kernel⟩
theorem der__law_pick (T : Tp facts defs exOk K mg) (F__law_draw : GDef Pg w K mg base k__law_draw (He.fAd K d__law_draw.at_) p__law_draw (sp__law_draw K)) : ∀ (cdv : Value) (A : Around) (outer : List PySem.Env) (s : Shared) (H : Hp) (E : XK), Room 1 (A.deeper (envOfC d__law_pick.qual d__law_pick.scope s.heap.objs.size (He.fAd K d__law_pick.at_) cdv)) →
    DSs (cxOf CX0 Pg w K mg base N__law_pick d__law_pick.qual d__law_pick.scope (He.fAd K d__law_pick.at_) cdv A outer s H E).nox d__law_pick.body (t__law_pick K) := fun cdv A outer s H E hr =>
  (dss_cons (ds_par (i := 3) (j := 4) rfl sc__law_pick.nd rfl rfl (by decide) rfl rfl (da_cons (de_callTy call_list_of cd_listM (by rfl) (T.free 0) boot_list (da_cons (dv 1) da_nil)) (da_cons (de_lstM da_nil) da_nil)) (by rfl))
    (dss_cons (ds_for PassesOwn.never rfl (di_range1 (by rfl) (T.free 6) (da_cons (de_callB (call_min2 rfl) cd_min2 (by rfl) (T.free 5) boot_min (da_cons (dv 2) (da_cons (de_callB call_lenAll cd_len (by rfl) (T.free 2) boot_len (da_cons (dv 3) da_nil)) da_nil))) da_nil)) (dg_name (i := 5) sc__law_pick.nd rfl (by first | exact .inl rfl | exact .inr rfl)) (dss_one (ds_expr (de_bm PySem.F.plainAttrs_list PySem.F.slot_list_append PySem.F.type_list_append mt_append md_append (dv 4) (da_cons (de_bm PySem.F.plainAttrs_list PySem.F.slot_list_pop PySem.F.type_list_pop mt_popAt md_popAt (dv 3) (da_cons (de_callG F__law_draw (hr.mono (by decide)) (T.glo 4) (da_cons (dv 0) (da_cons (de_callB call_lenAll cd_len (by rfl) (T.free 2) boot_len (da_cons (dv 3) da_nil)) da_nil))) da_nil)) da_nil)))))
    (dss_one (ds_ret (dv 4)))))
theorem sc__law_same : FnScope N__law_same p__law_same d__law_same.scope := ⟨rfl, rfl, rfl, by decide +kernel, rfl, by decide +kernel, by decide +kernel⟩
theorem der__law_same (T : Tp facts defs exOk K mg) {n : Nat} {spr : SpD} (F__law_same : GDef Pg w K mg base n (He.fAd K d__law_same.at_) p__law_same spr) : ∀ (cdv : Value) (A : Around) (outer : List PySem.Env) (s : Shared) (H : Hp) (E : XK), Room n (A.deeper (envOfC d__law_same.qual d__law_same.scope s.heap.objs.size (He.fAd K d__law_same.at_) cdv)) →
    DSs (cxOf CX0 Pg w K mg base N__law_same d__law_same.qual d__law_same.scope (He.fAd K d__law_same.at_) cdv A outer s H E).nox d__law_same.body (t__law_same K spr) := fun cdv A outer s H E hr =>
  (dss_cons (ds_if (PW.pt (dw_or (dt_cmp op_isN od_is (dv 1) de_non (by first | rfl | exact nobehind _ (by decide) (by decide))) (dw_or1 (dt_cmp op_isN od_is (dv 0) de_non (by first | rfl | exact nobehind _ (by decide) (by decide)))))) (dss_one (ds_ret (de_and (de_cmp op_isN od_is (dv 1) de_non (by first | rfl | exact nobehind _ (by decide) (by decide))) (de_one (de_cmp op_isN od_is (dv 0) de_non (by first | rfl | exact nobehind _ (by decide) (by decide))))))) dss_nil)
    (dss_cons (ds_if (dt_val (de_callB call_isi cd_isi (by rfl) (T.free 8) boot_isinstance (da_cons (dv 1) (da_cons (de_ty (by rfl) (T.free 14) boot_dict) da_nil)))) (dss_one ds_never) dss_nil)
    (dss_cons (ds_if (dt_val (de_callB call_isiT cd_isiT (by rfl) (T.free 8) boot_isinstance (da_cons (dv 1) (da_cons (de_tup (da_cons (de_ty (by rfl) (T.free 0) boot_list) (da_cons (de_ty (by rfl) (T.free 10) boot_tuple) da_nil))) da_nil)))) (dss_cons (ds_if (dt_cmp (op_neD hr.units) od_neD (de_lst (da_cons (de_callB call_isi cd_isi (by rfl) (T.free 8) boot_isinstance (da_cons (dv 0) (da_cons (de_ty (by rfl) (T.free 0) boot_list) da_nil))) (da_cons (de_callB call_isi cd_isi (by rfl) (T.free 8) boot_isinstance (da_cons (dv 0) (da_cons (de_ty (by rfl) (T.free 10) boot_tuple) da_nil))) da_nil))) (de_lst (da_cons (de_callB call_isi cd_isi (by rfl) (T.free 8) boot_isinstance (da_cons (dv 1) (da_cons (de_ty (by rfl) (T.free 0) boot_list) da_nil))) (da_cons (de_callB call_isi cd_isi (by rfl) (T.free 8) boot_isinstance (da_cons (dv 1) (da_cons (de_ty (by rfl) (T.free 10) boot_tuple) da_nil))) da_nil))) (by first | rfl | exact nobehind _ (by decide) (by decide))) (dss_one (ds_ret de_bl)) dss_nil)
    (dss_one (ds_ret (de_and (de_cmp op_eq od_eq (de_callB call_lenAll cd_len (by rfl) (T.free 2) boot_len (da_cons (dv 0) da_nil)) (de_callB call_lenAll cd_len (by rfl) (T.free 2) boot_len (da_cons (dv 1) da_nil)) (by first | rfl | exact nobehind _ (by decide) (by decide))) (de_one (de_callB (cr_all rfl) cd_all (by rfl) (T.free 13) boot_all (da_cons (de_lc (own := [(("a" : Str), 2), (("b" : Str), 3)]) rfl sc__law_same.nd (di_zip (by rfl) (T.free 11) (da_cons (dv 0) (da_cons (dv 1) da_nil))) (blkOk_by (by first | rfl | decide +kernel)) (fun _ _ _ _ _ => (dg_tup rfl (dgs_cons (dg_name (i := 2) sc__law_same.nd rfl (by first | exact .inl rfl | exact .inr rfl)) (dgs_cons (dg_name (i := 3) sc__law_same.nd rfl (by first | exact .inl rfl | exact .inr rfl)) dgs_nil)))) (fun _ _ _ _ _ => dts_nil) (fun _ _ _ _ _ => (de_callG F__law_same hr (T.glo 12) (da_cons (dv 2) (da_cons (dv 3) da_nil))))) da_nil))))))) dss_nil)
    (dss_cons (ds_if (dt_cmp (op_neD hr.units) od_neD (de_lst (da_cons (de_callB call_isi cd_isi (by rfl) (T.free 8) boot_isinstance (da_cons (dv 0) (da_cons (de_ty (by rfl) (T.free 9) boot_bool) da_nil))) (da_cons (de_callB call_isi cd_isi (by rfl) (T.free 8) boot_isinstance (da_cons (dv 0) (da_cons (de_ty (by rfl) (T.free 1) boot_int) da_nil))) (da_cons (de_callB call_isi cd_isi (by rfl) (T.free 8) boot_isinstance (da_cons (dv 0) (da_cons (de_ty (by rfl) (T.free 7) boot_str) da_nil))) da_nil)))) (de_lst (da_cons (de_callB call_isi cd_isi (by rfl) (T.free 8) boot_isinstance (da_cons (dv 1) (da_cons (de_ty (by rfl) (T.free 9) boot_bool) da_nil))) (da_cons (de_callB call_isi cd_isi (by rfl) (T.free 8) boot_isinstance (da_cons (dv 1) (da_cons (de_ty (by rfl) (T.free 1) boot_int) da_nil))) (da_cons (de_callB call_isi cd_isi (by rfl) (T.free 8) boot_isinstance (da_cons (dv 1) (da_cons (de_ty (by rfl) (T.free 7) boot_str) da_nil))) da_nil)))) (by first | rfl | exact nobehind _ (by decide) (by decide))) (dss_one (ds_ret de_bl)) dss_nil)
    (dss_one (ds_ret (de_cmp op_eq od_eq (dv 0) (dv 1) (by first | rfl | exact nobehind _ (by decide) (by decide)))))))))
theorem sc__law_units : FnScope N__law_units p__law_units d__law_units.scope := ⟨rfl, rfl, rfl, by decide +kernel, rfl, by decide +kernel, by decide +kernel⟩
theorem der__law_units (T : Tp facts defs exOk K mg)  : ∀ (cdv : Value) (A : Around) (outer : List PySem.Env) (s : Shared) (H : Hp) (E : XK), Room 0 (A.deeper (envOfC d__law_units.qual d__law_units.scope s.heap.objs.size (He.fAd K d__law_units.at_) cdv)) →
    DSs (cxOf CX0 Pg w K mg base N__law_units d__law_units.qual d__law_units.scope (He.fAd K d__law_units.at_) cdv A outer s H E).nox d__law_units.body (t__law_units K) := fun cdv A outer s H E hr =>
  (dss_one (ds_ret (de_lc (own := [(("k" : Str), 2)]) rfl sc__law_units.nd (di_range1 (by rfl) (T.free 6) (da_cons (dv 0) da_nil)) (blkOk_by (by first | rfl | decide +kernel)) (fun _ _ _ _ _ => (dg_name (i := 2) sc__law_units.nd rfl (by first | exact .inl rfl | exact .inr rfl))) (fun _ _ _ _ _ => dts_nil) (fun _ _ _ _ _ => (de_callTy call_tuple_of cd_tuple (by rfl) (T.free 10) boot_tuple (da_cons (de_lc (own := [(("i" : Str), 1)]) rfl sc__law_units.nd (di_range1 (by rfl) (T.free 6) (da_cons (dv 0) da_nil)) (blkOk_by (by first | rfl | decide +kernel)) (fun _ _ _ _ _ => (dg_name (i := 1) sc__law_units.nd rfl (by first | exact .inl rfl | exact .inr rfl))) (fun _ _ _ _ _ => dts_nil) (fun _ _ _ _ _ => (de_if (dt_cmp op_eq od_eq (dv 1) (dv 2) (by first | rfl | exact nobehind _ (by decide) (by decide))) de_int de_int))) da_nil))))))
theorem sc__law_names : FnScope N__law_names p__law_names d__law_names.scope := ⟨rfl, rfl, rfl, by decide +kernel, rfl, by decide +kernel, by decide +kernel⟩
theorem der__law_names (T : Tp facts defs exOk K mg) (F__law_of : GDef Pg w K mg base k__law_of (He.fAd K d__law_of.at_) p__law_of (sp__law_of K)) : ∀ (cdv : Value) (A : Around) (outer : List PySem.Env) (s : Shared) (H : Hp) (E : XK), Room 2 (A.deeper (envOfC d__law_names.qual d__law_names.scope s.heap.objs.size (He.fAd K d__law_names.at_) cdv)) →
    DSs (cxOf CX0 Pg w K mg base N__law_names d__law_names.qual d__law_names.scope (He.fAd K d__law_names.at_) cdv A outer s H E).nox d__law_names.body (t__law_names K) := fun cdv A outer s H E hr =>
  (dss_cons (ds_set (i := 2) sc__law_names.nd rfl (by first | exact .inl rfl | exact .inr rfl) (de_lstM da_nil))
    (dss_cons (ds_for PassesOwn.never rfl (di_range1 (by rfl) (T.free 6) (da_cons (dv 1) da_nil)) (dg_name (i := 3) sc__law_names.nd rfl (by first | exact .inl rfl | exact .inr rfl)) (dss_cons (ds_set (i := 4) sc__law_names.nd rfl (by first | exact .inl rfl | exact .inr rfl) (de_callG F__law_of (hr.mono (by decide)) (T.glo 15) (da_cons (dv 0) (da_cons de_str da_nil))))
    (dss_cons (ds_for PassesOwn.never rfl (di_range1 (by rfl) (T.free 6) (da_cons (de_callG F__law_of (hr.mono (by decide)) (T.glo 15) (da_cons (dv 0) (da_cons (de_lst (da_cons de_int (da_cons de_int (da_cons de_int (da_cons de_int (da_cons de_int (da_cons de_int da_nil))))))) da_nil))) da_nil)) (dg_name (i := 5) sc__law_names.nd rfl (by first | exact .inl rfl | exact .inr rfl)) (dss_one (ds_set (i := 4) sc__law_names.nd rfl (by first | exact .inl rfl | exact .inr rfl) (de_op op_plus od_plus (dv 4) (de_callG F__law_of (hr.mono (by decide)) (T.glo 15) (da_cons (dv 0) (da_cons de_str da_nil)))))))
    (dss_cons (ds_if (PW.pt (dw_or (dt_cmp op_inAll od_in (dv 4) (dv 2) (by first | rfl | exact nobehind _ (by decide) (by decide))) (dw_or1 (dt_cmp op_inAll od_in (dv 4) (de_lst (da_cons de_str (da_cons de_str (da_cons de_str (da_cons de_str da_nil))))) (by first | rfl | exact nobehind _ (by decide) (by decide)))))) (dss_one (ds_set (i := 4) sc__law_names.nd rfl (by first | exact .inl rfl | exact .inr rfl) (de_ix (de_lc (own := [(("own" : Str), 6)]) rfl sc__law_names.nd (di_seq (de_lst (da_cons de_str (da_cons de_str (da_cons de_str (da_cons de_str (da_cons de_str (da_cons de_str (da_cons de_str (da_cons de_str da_nil)))))))))) (blkOk_by (by first | rfl | decide +kernel)) (fun _ _ _ _ _ => (dg_name (i := 6) sc__law_names.nd rfl (by first | exact .inl rfl | exact .inr rfl))) (fun _ _ _ _ _ => (dts_one (dt_cmp op_notInAll od_in (dv 6) (dv 2) (by first | rfl | exact nobehind _ (by decide) (by decide))))) (fun _ _ _ _ _ => (dv 6))) de_int))) dss_nil)
    (dss_one (ds_expr (de_bm PySem.F.plainAttrs_list PySem.F.slot_list_append PySem.F.type_list_append mt_append md_append (dv 2) (da_cons (dv 4) da_nil))))))))
    (dss_one (ds_ret (de_frz (dv 2))))))
theorem sc__law_row : FnScope N__law_row p__law_row d__law_row.scope := ⟨rfl, rfl, rfl, by decide +kernel, rfl, by decide +kernel, by decide +kernel⟩
theorem der__law_row (T : Tp facts defs exOk K mg) (F__law_of : GDef Pg w K mg base k__law_of (He.fAd K d__law_of.at_) p__law_of (sp__law_of K)) (F__law_draw : GDef Pg w K mg base k__law_draw (He.fAd K d__law_draw.at_) p__law_draw (sp__law_draw K)) : ∀ (cdv : Value) (A : Around) (outer : List PySem.Env) (s : Shared) (H : Hp) (E : XK), Room 2 (A.deeper (envOfC d__law_row.qual d__law_row.scope s.heap.objs.size (He.fAd K d__law_row.at_) cdv)) →
    DSs (cxOf CX0 Pg w K mg base N__law_row d__law_row.qual d__law_row.scope (He.fAd K d__law_row.at_) cdv A outer s H E).nox d__law_row.body (t__law_row K) := fun cdv A outer s H E hr =>
  (dss_cons (ds_if (dt_tru (dv 2)) (dss_cons (ds_asg (de_tup (da_cons (de_callG F__law_draw (hr.mono (by decide)) (T.glo 4) (da_cons (dv 0) (da_cons (dv 1) da_nil))) (da_cons (de_callG F__law_of (hr.mono (by decide)) (T.glo 15) (da_cons (dv 0) (da_cons (de_lst (da_cons de_int (da_cons de_int (da_cons de_int (da_cons de_int (da_cons (de_un un_neg ud_neg de_int) da_nil)))))) da_nil))) da_nil))) (dg_tup rfl (dgs_cons (dg_name (i := 3) sc__law_row.nd rfl (by first | exact .inl rfl | exact .inr rfl)) (dgs_cons (dg_name (i := 4) sc__law_row.nd rfl (by first | exact .inl rfl | exact .inr rfl)) dgs_nil))))
    (dss_one (ds_ret (de_callTy call_tuple_of cd_tuple (by rfl) (T.free 10) boot_tuple (da_cons (de_lc (own := [(("k" : Str), 5)]) rfl sc__law_row.nd (di_range1 (by rfl) (T.free 6) (da_cons (dv 1) da_nil)) (blkOk_by (by first | rfl | decide +kernel)) (fun _ _ _ _ _ => (dg_name (i := 5) sc__law_row.nd rfl (by first | exact .inl rfl | exact .inr rfl))) (fun _ _ _ _ _ => dts_nil) (fun _ _ _ _ _ => (de_if (dt_cmp op_eq od_eq (dv 5) (dv 3) (by first | rfl | exact nobehind _ (by decide) (by decide))) (dv 4) de_int))) da_nil))))) dss_nil)
    (dss_one (ds_ret (de_callTy call_tuple_of cd_tuple (by rfl) (T.free 10) boot_tuple (da_cons (de_lc (own := [(("k" : Str), 5)]) rfl sc__law_row.nd (di_range1 (by rfl) (T.free 6) (da_cons (dv 1) da_nil)) (blkOk_by (by first | rfl | decide +kernel)) (fun _ _ _ _ _ => (dg_name (i := 5) sc__law_row.nd rfl (by first | exact .inl rfl | exact .inr rfl))) (fun _ _ _ _ _ => dts_nil) (fun _ _ _ _ _ => (de_callG F__law_of (hr.mono (by decide)) (T.glo 15) (da_cons (dv 0) (da_cons (de_lst (da_cons de_int (da_cons de_int (da_cons de_int (da_cons (de_un un_neg ud_neg de_int) (da_cons de_int (da_cons de_int (da_cons de_int (da_cons de_int (da_cons (de_un un_neg ud_neg de_int) (da_cons de_int da_nil))))))))))) da_nil))))) da_nil)))))
theorem sc__law_matrices : FnScope N__law_matrices p__law_matrices d__law_matrices.scope := ⟨rfl, rfl, rfl, by decide +kernel, rfl, by decide +kernel, by decide +kernel⟩
theorem der__law_matrices (T : Tp facts defs exOk K mg) (F__law_of : GDef Pg w K mg base k__law_of (He.fAd K d__law_of.at_) p__law_of (sp__law_of K)) (F__law_row : GDef Pg w K mg base k__law_row (He.fAd K d__law_row.at_) p__law_row (sp__law_row K)) : ∀ (cdv : Value) (A : Around) (outer : List PySem.Env) (s : Shared) (H : Hp) (E : XK), Room 3 (A.deeper (envOfC d__law_matrices.qual d__law_matrices.scope s.heap.objs.size (He.fAd K d__law_matrices.at_) cdv)) →
    DSs (cxOf CX0 Pg w K mg base N__law_matrices d__law_matrices.qual d__law_matrices.scope (He.fAd K d__law_matrices.at_) cdv A outer s H E).nox d__law_matrices.body (t__law_matrices K) := fun cdv A outer s H E hr =>
  (dss_one (ds_ret (de_lc (own := [(("k" : Str), 5)]) rfl sc__law_matrices.nd (di_range1 (by rfl) (T.free 6) (da_cons (dv 2) da_nil)) (blkOk_by (by first | rfl | decide +kernel)) (fun _ _ _ _ _ => (dg_name (i := 5) sc__law_matrices.nd rfl (by first | exact .inl rfl | exact .inr rfl))) (fun _ _ _ _ _ => dts_nil) (fun _ _ _ _ _ => (de_lc (own := [(("at" : Str), 4)]) rfl sc__law_matrices.nd (di_range1 (by rfl) (T.free 6) (da_cons (de_callG F__law_of (hr.mono (by decide)) (T.glo 15) (da_cons (dv 0) (da_cons (de_lst (da_cons de_int (da_cons de_int (da_cons de_int (da_cons de_int (da_cons de_int (da_cons de_int (da_cons de_int (da_cons de_int da_nil))))))))) da_nil))) da_nil)) (blkOk_by (by first | rfl | decide +kernel)) (fun _ _ _ _ _ => (dg_name (i := 4) sc__law_matrices.nd rfl (by first | exact .inl rfl | exact .inr rfl))) (fun _ _ _ _ _ => dts_nil) (fun _ _ _ _ _ => (de_callG F__law_row (hr.mono (by decide)) (T.glo 16) (da_cons (dv 0) (da_cons (dv 1) (da_cons (dv 3) da_nil))))))))))
theorem sc__law_array : FnScope N__law_array p__law_array d__law_array.scope := ⟨rfl, rfl, rfl, by decide +kernel, rfl, by decide +kernel, by decide +kernel⟩
theorem der__law_array (T : Tp facts defs exOk K mg) (F__law_of : GDef Pg w K mg base k__law_of (He.fAd K d__law_of.at_) p__law_of (sp__law_of K)) : ∀ (cdv : Value) (A : Around) (outer : List PySem.Env) (s : Shared) (H : Hp) (E : XK), Room 2 (A.deeper (envOfC d__law_array.qual d__law_array.scope s.heap.objs.size (He.fAd K d__law_array.at_) cdv)) →
    DSs (cxOf CX0 Pg w K mg base N__law_array d__law_array.qual d__law_array.scope (He.fAd K d__law_array.at_) cdv A outer s H E).nox d__law_array.body (t__law_array K) := fun cdv A outer s H E hr =>
  (dss_cons (ds_set (i := 1) sc__law_array.nd rfl (by first | exact .inl rfl | exact .inr rfl) (de_callG F__law_of (hr.mono (by decide)) (T.glo 15) (da_cons (dv 0) (da_cons de_str da_nil))))
    (dss_cons (ds_for PassesOwn.never rfl (di_range1 (by rfl) (T.free 6) (da_cons (de_callG F__law_of (hr.mono (by decide)) (T.glo 15) (da_cons (dv 0) (da_cons (de_lst (da_cons de_int (da_cons de_int (da_cons de_int (da_cons de_int (da_cons de_int (da_cons de_int da_nil))))))) da_nil))) da_nil)) (dg_name (i := 2) sc__law_array.nd rfl (by first | exact .inl rfl | exact .inr rfl)) (dss_one (ds_set (i := 1) sc__law_array.nd rfl (by first | exact .inl rfl | exact .inr rfl) (de_op op_plus od_plus (dv 1) (de_callG F__law_of (hr.mono (by decide)) (T.glo 15) (da_cons (dv 0) (da_cons de_str da_nil)))))))
    (dss_one (ds_ret (dv 1)))))
theorem sc__law_dressed : FnScope N__law_dressed p__law_dressed d__law_dressed.scope := ⟨rfl, rfl, rfl, by decide +kernel, rfl, by decide +kernel, by decide +kernel⟩
theorem der__law_dressed (T : Tp facts defs exOk K mg) (F__law_of : GDef Pg w K mg base k__law_of (He.fAd K d__law_of.at_) p__law_of (sp__law_of K)) (F__law_draw : GDef Pg w K mg base k__law_draw (He.fAd K d__law_draw.at_) p__law_draw (sp__law_draw K)) (F__law_array : GDef Pg w K mg base k__law_array (He.fAd K d__law_array.at_) p__law_array (sp__law_array K)) : ∀ (cdv : Value) (A : Around) (outer : List PySem.Env) (s : Shared) (H : Hp) (E : XK), Room 3 (A.deeper (envOfC d__law_dressed.qual d__law_dressed.scope s.heap.objs.size (He.fAd K d__law_dressed.at_) cdv)) →
    DSs (cxOf CX0 Pg w K mg base N__law_dressed d__law_dressed.qual d__law_dressed.scope (He.fAd K d__law_dressed.at_) cdv A outer s H E).nox d__law_dressed.body (t__law_dressed K) := fun cdv A outer s H E hr =>
  (dss_cons (ds_set (i := 2) sc__law_dressed.nd rfl (by first | exact .inl rfl | exact .inr rfl) (de_lstM da_nil))
    (dss_cons (ds_for PassesOwn.never rfl (di_seq (dv 1)) (dg_name (i := 3) sc__law_dressed.nd rfl (by first | exact .inl rfl | exact .inr rfl)) (dss_cons (ds_setLc (i := 4)  (own := [(("name" : Str), 5), (("subs" : Str), 6)]) rfl sc__law_dressed.nd rfl rfl (by rfl) (di_seq (dv 2)) (blkOk_by (by first | rfl | decide +kernel)) (fun _ _ _ _ _ => (dg_tup rfl (dgs_cons (dg_name (i := 5) sc__law_dressed.nd rfl (by first | exact .inl rfl | exact .inr rfl)) (dgs_cons (dg_name (i := 6) sc__law_dressed.nd rfl (by first | exact .inl rfl | exact .inr rfl)) dgs_nil)))) (fun _ _ _ _ _ => (dts_one (dt_cmp op_eq od_eq (de_callB call_lenAll cd_len (by rfl) (T.free 2) boot_len (da_cons (dv 6) da_nil)) (de_callB call_lenAll cd_len (by rfl) (T.free 2) boot_len (da_cons (dv 3) da_nil)) (by first | rfl | exact nobehind _ (by decide) (by decide))))) (fun _ _ _ _ _ => (dv 5)))
    (dss_cons (ds_set (i := 5) sc__law_dressed.nd rfl (by first | exact .inl rfl | exact .inr rfl) (de_callG F__law_array (hr.mono (by decide)) (T.glo 17) (da_cons (dv 0) da_nil)))
    (dss_cons (ds_if (PW.pt (dw_and (dt_tru (dv 4)) (dw_and1 (dt_cmp op_eq od_eq (de_callG F__law_draw (hr.mono (by decide)) (T.glo 4) (da_cons (dv 0) (da_cons de_int da_nil))) de_int (by first | rfl | exact nobehind _ (by decide) (by decide)))))) (dss_one (ds_set (i := 5) sc__law_dressed.nd rfl (by first | exact .inl rfl | exact .inr rfl) (de_callG F__law_of (hr.mono (by decide)) (T.glo 15) (da_cons (dv 0) (da_cons (dv 4) da_nil))))) (dss_one (ds_if (dt_cmp op_inAll od_in (dv 5) (de_lc (own := [(("other" : Str), 7), (("subs" : Str), 6)]) rfl sc__law_dressed.nd (di_seq (dv 2)) (blkOk_by (by first | rfl | decide +kernel)) (fun _ _ _ _ _ => (dg_tup rfl (dgs_cons (dg_name (i := 7) sc__law_dressed.nd rfl (by first | exact .inl rfl | exact .inr rfl)) (dgs_cons (dg_name (i := 6) sc__law_dressed.nd rfl (by first | exact .inl rfl | exact .inr rfl)) dgs_nil)))) (fun _ _ _ _ _ => dts_nil) (fun _ _ _ _ _ => (dv 7))) (by first | rfl | exact nobehind _ (by decide) (by decide))) (dss_cons (ds_set (i := 8) sc__law_dressed.nd rfl (by first | exact .inl rfl | exact .inr rfl) (de_lc (own := [(("other" : Str), 7), (("subs" : Str), 6)]) rfl sc__law_dressed.nd (di_seq (dv 2)) (blkOk_by (by first | rfl | decide +kernel)) (fun _ _ _ _ _ => (dg_tup rfl (dgs_cons (dg_name (i := 7) sc__law_dressed.nd rfl (by first | exact .inl rfl | exact .inr rfl)) (dgs_cons (dg_name (i := 6) sc__law_dressed.nd rfl (by first | exact .inl rfl | exact .inr rfl)) dgs_nil)))) (fun _ _ _ _ _ => dts_nil) (fun _ _ _ _ _ => (dv 7))))
    (dss_one (ds_set (i := 5) sc__law_dressed.nd rfl (by first | exact .inl rfl | exact .inr rfl) (de_ix (de_lc (own := [(("own" : Str), 9)]) rfl sc__law_dressed.nd (di_seq (de_lst (da_cons de_str (da_cons de_str (da_cons de_str (da_cons de_str (da_cons de_str (da_cons de_str (da_cons de_str (da_cons de_str da_nil)))))))))) (blkOk_by (by first | rfl | decide +kernel)) (fun _ _ _ _ _ => (dg_name (i := 9) sc__law_dressed.nd rfl (by first | exact .inl rfl | exact .inr rfl))) (fun _ _ _ _ _ => (dts_one (dt_cmp op_notInAll od_in (dv 9) (dv 8) (by first | rfl | exact nobehind _ (by decide) (by decide))))) (fun _ _ _ _ _ => (dv 9))) de_int)))) dss_nil)))
    (dss_one (ds_expr (de_bm PySem.F.plainAttrs_list PySem.F.slot_list_append PySem.F.type_list_append mt_append md_append (dv 2) (da_cons (de_tup (da_cons (dv 5) (da_cons (de_lc (own := [(("row" : Str), 10)]) rfl sc__law_dressed.nd (di_seq (dv 3)) (blkOk_by (by first | rfl | decide +kernel)) (fun _ _ _ _ _ => (dg_name (i := 10) sc__law_dressed.nd rfl (by first | exact .inl rfl | exact .inr rfl))) (fun _ _ _ _ _ => dts_nil) (fun _ _ _ _ _ => (de_tup (da_cons (de_callTy call_tuple_of cd_tuple (by rfl) (T.free 10) boot_tuple (da_cons (dv 10) da_nil)) (da_cons (de_callG F__law_of (hr.mono (by decide)) (T.glo 15) (da_cons (dv 0) (da_cons (de_lst (da_cons de_int (da_cons de_int (da_cons de_int (da_cons (de_un un_neg ud_neg de_int) (da_cons de_int (da_cons de_int (da_cons (de_un un_neg ud_neg de_int) (da_cons de_int da_nil))))))))) da_nil))) da_nil))))) da_nil))) da_nil))))))))
    (dss_one (ds_ret (de_frz (dv 2))))))
theorem sc__law_nest : FnScope N__law_nest p__law_nest d__law_nest.scope := ⟨rfl, rfl, rfl, by decide +kernel, rfl, by decide +kernel, by decide +kernel⟩
theorem der__law_nest (T : Tp facts defs exOk K mg) (F__law_dressed : GDef Pg w K mg base k__law_dressed (He.fAd K d__law_dressed.at_) p__law_dressed (sp__law_dressed K)) (F__law_names : GDef Pg w K mg base k__law_names (He.fAd K d__law_names.at_) p__law_names (sp__law_names K)) : ∀ (cdv : Value) (A : Around) (outer : List PySem.Env) (s : Shared) (H : Hp) (E : XK), Room 4 (A.deeper (envOfC d__law_nest.qual d__law_nest.scope s.heap.objs.size (He.fAd K d__law_nest.at_) cdv)) →
    DSs (cxOf CX0 Pg w K mg base N__law_nest d__law_nest.qual d__law_nest.scope (He.fAd K d__law_nest.at_) cdv A outer s H E).nox d__law_nest.body (t__law_nest K) := fun cdv A outer s H E hr =>
  (dss_one (ds_ret (de_tup (da_cons (de_callG F__law_names (hr.mono (by decide)) (T.glo 19) (da_cons (dv 0) (da_cons (dv 2) da_nil))) (da_cons (de_callG F__law_dressed (hr.mono (by decide)) (T.glo 18) (da_cons (dv 0) (da_cons (dv 1) da_nil))) da_nil)))))
theorem sc_is_counter_name : FnScope N_is_counter_name p_is_counter_name d_is_counter_name.scope := ⟨rfl, rfl, rfl, by decide +kernel, rfl, by decide +kernel, by decide +kernel⟩
theorem der_is_counter_name (T : Tp facts defs exOk K mg)  : ∀ (cdv : Value) (A : Around) (outer : List PySem.Env) (s : Shared) (H : Hp) (E : XK), Room 0 (A.deeper (envOfC d_is_counter_name.qual d_is_counter_name.scope s.heap.objs.size (He.fAd K d_is_counter_name.at_) cdv)) →
    DSs (cxOf CX0 Pg w K mg base N_is_counter_name d_is_counter_name.qual d_is_counter_name.scope (He.fAd K d_is_counter_name.at_) cdv A outer s H E).nox d_is_counter_name.body (t_is_counter_name K) := fun cdv A outer s H E hr =>
  (dss_cons (ds_if (PW.pt (dw_or (dt_not (dt_chain op_le od_le op_le od_le de_int (de_callB call_lenAll cd_len (by rfl) (T.free 2) boot_len (da_cons (dv 0) da_nil)) de_int)) (dw_or (dt_inK (by rfl) (T.glo 22) (more_kept T) (dv 0) (by first | rfl | exact nobehind _ (by decide) (by decide))) (dw_or1 (dt_cmp op_notInAll od_in (de_ix (dv 0) de_int) (de_gstr (T.str 20)) (by first | rfl | exact nobehind _ (by decide) (by decide))))))) (dss_one (ds_ret de_bl)) dss_nil)
    (dss_one (ds_ret (de_callB (cr_all rfl) cd_all (by rfl) (T.free 13) boot_all (da_cons (de_lc (own := [(("sign" : Str), 1)]) rfl sc_is_counter_name.nd (di_str (dv 0)) (blkOk_by (by first | rfl | decide +kernel)) (fun _ _ _ _ _ => (dg_name (i := 1) sc_is_counter_name.nd rfl (by first | exact .inl rfl | exact .inr rfl))) (fun _ _ _ _ _ => dts_nil) (fun _ _ _ _ _ => (de_or (de_cmp op_inAll od_in (dv 1) (de_gstr (T.str 20)) (by first | rfl | exact nobehind _ (by decide) (by decide))) (de_one (de_cmp op_inAll od_in (dv 1) (de_gstr (T.str 21)) (by first | rfl | exact nobehind _ (by decide) (by decide))))))) da_nil)))))
end
end K80
/-! K80D1 -/
namespace K80
open PySem PySem.Spec PyProof.Rows L2 L3
section
variable {Pg : Program} {w : World} {K : PySem.W.Frag} {mg : Str → Option Value} {base : Heap}
theorem sc_counters_fault : FnScope N_counters_fault p_counters_fault d_counters_fault.scope := ⟨rfl, rfl, rfl, by decide +kernel, rfl, by decide +kernel, by decide +kernel⟩
theorem der_counters_fault (T : Tp facts defs exOk K mg) (F_is_counter_name : GDef Pg w K mg base k_is_counter_name (He.fAd K d_is_counter_name.at_) p_is_counter_name (sp_is_counter_name K)) : ∀ (cdv : Value) (A : Around) (outer : List PySem.Env) (s : Shared) (H : Hp) (E : XK), Room 1 (A.deeper (envOfC d_counters_fault.qual d_counters_fault.scope s.heap.objs.size (He.fAd K d_counters_fault.at_) cdv)) →
    DSs (cxOf CX0 Pg w K mg base N_counters_fault d_counters_fault.qual d_counters_fault.scope (He.fAd K d_counters_fault.at_) cdv A outer s H E).nox d_counters_fault.body (t_counters_fault K) := fun cdv A outer s H E hr =>
  (dss_cons (ds_if (PW.pt (dw_or (dt_not (dt_tru (dv 0))) (dw_or1 (dt_not (dt_val (de_callB (cr_all rfl) cd_all (by rfl) (T.free 13) boot_all (da_cons (de_lc (own := [(("name" : Str), 1)]) rfl sc_counters_fault.nd (di_seq (dv 0)) (blkOk_by (by first | rfl | decide +kernel)) (fun _ _ _ _ _ => (dg_name (i := 1) sc_counters_fault.nd rfl (by first | exact .inl rfl | exact .inr rfl))) (fun _ _ _ _ _ => dts_nil) (fun _ _ _ _ _ => (de_callG F_is_counter_name (hr.mono (by decide)) (T.glo 23) (da_cons (dv 1) da_nil)))) da_nil))))))) (dss_one (ds_ret de_str)) dss_nil)
    (dss_cons (ds_if (dt_cmp op_lt od_lt (de_callB call_lenAll cd_len (by rfl) (T.free 2) boot_len (da_cons (de_dc keyK (own := [(("name" : Str), 1)]) (by first | exact hr.units | exact uni1 hr | exact uni0 hr) rfl sc_counters_fault.nd (di_seq (dv 0)) (blkOk_by (by first | rfl | decide +kernel)) (fun _ _ _ _ _ => (dg_name (i := 1) sc_counters_fault.nd rfl (by first | exact .inl rfl | exact .inr rfl))) (fun _ _ _ _ _ => dts_nil) (fun _ _ _ _ _ => (dv 1)) (fun _ _ _ _ _ => de_bl)) da_nil)) (de_callB call_lenAll cd_len (by rfl) (T.free 2) boot_len (da_cons (dv 0) da_nil)) (by first | rfl | exact nobehind _ (by decide) (by decide))) (dss_one (ds_ret de_str)) dss_nil)
    (dss_one (ds_ret de_str))))
theorem sc_look_at_counters : FnScope N_look_at_counters p_look_at_counters d_look_at_counters.scope := ⟨rfl, rfl, rfl, by decide +kernel, rfl, by decide +kernel, by decide +kernel⟩
theorem der_look_at_counters (T : Tp facts defs exOk K mg) (F_counters_fault : GDef Pg w K mg base k_counters_fault (He.fAd K d_counters_fault.at_) p_counters_fault (sp_counters_fault K)) : ∀ (cdv : Value) (A : Around) (outer : List PySem.Env) (s : Shared) (H : Hp) (E : XK), Room 2 (A.deeper (envOfC d_look_at_counters.qual d_look_at_counters.scope s.heap.objs.size (He.fAd K d_look_at_counters.at_) cdv)) →
    DSs (cxOf CX0 Pg w K mg base N_look_at_counters d_look_at_counters.qual d_look_at_counters.scope (He.fAd K d_look_at_counters.at_) cdv A outer s H E).nox d_look_at_counters.body (t_look_at_counters K) := fun cdv A outer s H E hr =>
  (dss_cons (ds_set (i := 1) sc_look_at_counters.nd rfl (by first | exact .inl rfl | exact .inr rfl) (de_callG F_counters_fault (hr.mono (by decide)) (T.glo 24) (da_cons (dv 0) da_nil)))
    (dss_one (ds_if (dt_cmp op_ne od_ne (dv 1) de_str (by first | rfl | exact nobehind _ (by decide) (by decide))) (dss_one ds_never) dss_nil)))
theorem sc_is_array_name : FnScope N_is_array_name p_is_array_name d_is_array_name.scope := ⟨rfl, rfl, rfl, by decide +kernel, rfl, by decide +kernel, by decide +kernel⟩
theorem der_is_array_name (T : Tp facts defs exOk K mg)  : ∀ (cdv : Value) (A : Around) (outer : List PySem.Env) (s : Shared) (H : Hp) (E : XK), Room 0 (A.deeper (envOfC d_is_array_name.qual d_is_array_name.scope s.heap.objs.size (He.fAd K d_is_array_name.at_) cdv)) →
    DSs (cxOf CX0 Pg w K mg base N_is_array_name d_is_array_name.qual d_is_array_name.scope (He.fAd K d_is_array_name.at_) cdv A outer s H E).nox d_is_array_name.body (t_is_array_name K) := fun cdv A outer s H E hr =>
  (dss_cons (ds_if (PW.pt (dw_or (dt_not (dt_chain op_le od_le op_le od_le de_int (de_callB call_lenAll cd_len (by rfl) (T.free 2) boot_len (da_cons (dv 0) da_nil)) de_int)) (dw_or1 (dt_cmp op_notInAll od_in (de_ix (dv 0) de_int) (de_gstr (T.str 25)) (by first | rfl | exact nobehind _ (by decide) (by decide)))))) (dss_one (ds_ret de_bl)) dss_nil)
    (dss_one (ds_ret (de_callB (cr_all rfl) cd_all (by rfl) (T.free 13) boot_all (da_cons (de_lc (own := [(("sign" : Str), 1)]) rfl sc_is_array_name.nd (di_str (dv 0)) (blkOk_by (by first | rfl | decide +kernel)) (fun _ _ _ _ _ => (dg_name (i := 1) sc_is_array_name.nd rfl (by first | exact .inl rfl | exact .inr rfl))) (fun _ _ _ _ _ => dts_nil) (fun _ _ _ _ _ => (de_or (de_cmp op_inAll od_in (dv 1) (de_gstr (T.str 25)) (by first | rfl | exact nobehind _ (by decide) (by decide))) (de_one (de_cmp op_inAll od_in (dv 1) (de_gstr (T.str 21)) (by first | rfl | exact nobehind _ (by decide) (by decide))))))) da_nil)))))
theorem sc_look_at_touches : FnScope N_look_at_touches p_look_at_touches d_look_at_touches.scope := ⟨rfl, rfl, rfl, by decide +kernel, rfl, by decide +kernel, by decide +kernel⟩
theorem der_look_at_touches (T : Tp facts defs exOk K mg) (F_is_array_name : GDef Pg w K mg base k_is_array_name (He.fAd K d_is_array_name.at_) p_is_array_name (sp_is_array_name K)) : ∀ (cdv : Value) (A : Around) (outer : List PySem.Env) (s : Shared) (H : Hp) (E : XK), Room 1 (A.deeper (envOfC d_look_at_touches.qual d_look_at_touches.scope s.heap.objs.size (He.fAd K d_look_at_touches.at_) cdv)) →
    DSs (cxOf CX0 Pg w K mg base N_look_at_touches d_look_at_touches.qual d_look_at_touches.scope (He.fAd K d_look_at_touches.at_) cdv A outer s H E).nox d_look_at_touches.body (t_look_at_touches K) := fun cdv A outer s H E hr =>
  (dss_cons (ds_if (dt_not (dt_tru (dv 1))) (dss_one ds_never) dss_nil)
    (dss_cons (ds_set (i := 2) sc_look_at_touches.nd rfl (by first | exact .inl rfl | exact .inr rfl) de_dnewK)
    (dss_one (ds_for PassesOwn.never rfl (di_enum (by rfl) (T.free 26) (da_cons (dv 1) da_nil)) (dg_tup rfl (dgs_cons (dg_name (i := 3) sc_look_at_touches.nd rfl (by first | exact .inl rfl | exact .inr rfl)) (dgs_cons (dg_tup rfl (dgs_cons (dg_name (i := 4) sc_look_at_touches.nd rfl (by first | exact .inl rfl | exact .inr rfl)) (dgs_cons (dg_name (i := 5) sc_look_at_touches.nd rfl (by first | exact .inl rfl | exact .inr rfl)) dgs_nil))) dgs_nil))) (dss_cons (ds_if (PW.pt (dw_or (dt_not (dt_tru (de_callG F_is_array_name (hr.mono (by decide)) (T.glo 27) (da_cons (dv 4) da_nil)))) (dw_or1 (dt_val (de_callB (cr_any rfl) cd_any (by rfl) (T.free 28) boot_any (da_cons (de_lc (own := [(("pair" : Str), 6)]) rfl sc_look_at_touches.nd (di_seq (dv 5)) (blkOk_by (by first | rfl | decide +kernel)) (fun _ _ _ _ _ => (dg_name (i := 6) sc_look_at_touches.nd rfl (by first | exact .inl rfl | exact .inr rfl))) (fun _ _ _ _ _ => dts_nil) (fun _ _ _ _ _ => (de_cmp op_ne od_ne (de_callB call_lenAll cd_len (by rfl) (T.free 2) boot_len (da_cons (de_ix (dv 6) de_int) da_nil)) (dv 0) (by first | rfl | exact nobehind _ (by decide) (by decide))))) da_nil)))))) (dss_one ds_never) dss_nil)
    (dss_one (ds_if (dt_cmp op_ne od_ne (de_dsetdK (dv 2) (dv 4) (de_callB call_lenAll cd_len (by rfl) (T.free 2) boot_len (da_cons (dv 5) da_nil)) ⟨by rfl, by rfl, by rfl, by rfl⟩) (de_callB call_lenAll cd_len (by rfl) (T.free 2) boot_len (da_cons (dv 5) da_nil)) (by first | rfl | exact nobehind _ (by decide) (by decide))) (dss_one ds_never) dss_nil)))))))
theorem sc_integer_text : FnScope N_integer_text p_integer_text d_integer_text.scope := ⟨rfl, rfl, rfl, by decide +kernel, rfl, by decide +kernel, by decide +kernel⟩
theorem der_integer_text (T : Tp facts defs exOk K mg)  : ∀ (cdv : Value) (A : Around) (outer : List PySem.Env) (s : Shared) (H : Hp) (E : XK), Room 0 (A.deeper (envOfC d_integer_text.qual d_integer_text.scope s.heap.objs.size (He.fAd K d_integer_text.at_) cdv)) →
    DSs (cxOf CX0 Pg w K mg base N_integer_text d_integer_text.qual d_integer_text.scope (He.fAd K d_integer_text.at_) cdv A outer s H E).nox d_integer_text.body (t_integer_text K) := fun cdv A outer s H E hr =>
  (dss_cons (ds_if (dt_chain op_lt od_lt op_lt od_lt (de_un un_neg ud_neg (de_gint (T.int 29))) (dv 0) (de_gint (T.int 29))) (dss_one (ds_ret (de_callTy call_str_int cd_strI (by rfl) (T.free 7) boot_str (da_cons (dv 0) da_nil)))) dss_nil)
    (dss_cons ds_never
    (dss_cons ds_never
    (dss_cons ds_never
    (dss_cons ds_never
    (dss_cons ds_never
    (dss_one ds_never)))))))
theorem sc_subscript_text : FnScope N_subscript_text p_subscript_text d_subscript_text.scope := ⟨rfl, rfl, rfl, by decide +kernel, rfl, by decide +kernel, by decide +kernel⟩
theorem der_subscript_text (T : Tp facts defs exOk K mg) (F_integer_text : GDef Pg w K mg base k_integer_text (He.fAd K d_integer_text.at_) p_integer_text (sp_integer_text K)) : ∀ (cdv : Value) (A : Around) (outer : List PySem.Env) (s : Shared) (H : Hp) (E : XK), Room 1 (A.deeper (envOfC d_subscript_text.qual d_subscript_text.scope s.heap.objs.size (He.fAd K d_subscript_text.at_) cdv)) →
    DSs (cxOf CX0 Pg w K mg base N_subscript_text d_subscript_text.qual d_subscript_text.scope (He.fAd K d_subscript_text.at_) cdv A outer s H E).nox d_subscript_text.body (t_subscript_text K) := fun cdv A outer s H E hr =>
  (dss_cons (ds_set (i := 3) sc_subscript_text.nd rfl (by first | exact .inl rfl | exact .inr rfl) (de_lstM da_nil))
    (dss_cons (ds_for PassesOwn.never rfl (di_zip (by rfl) (T.free 11) (da_cons (dv 0) (da_cons (dv 1) da_nil))) (dg_tup rfl (dgs_cons (dg_name (i := 4) sc_subscript_text.nd rfl (by first | exact .inl rfl | exact .inr rfl)) (dgs_cons (dg_name (i := 5) sc_subscript_text.nd rfl (by first | exact .inl rfl | exact .inr rfl)) dgs_nil))) (dss_one (ds_if (dt_cmp op_ne od_ne (dv 5) de_int (by first | rfl | exact nobehind _ (by decide) (by decide))) (dss_cons (ds_expr (de_bm PySem.F.plainAttrs_list PySem.F.slot_list_append PySem.F.type_list_append mt_append md_append (dv 3) (da_cons (de_if (dt_cmp op_gt od_gt (dv 5) de_int (by first | rfl | exact nobehind _ (by decide) (by decide))) de_str de_str) da_nil)))
    (dss_cons (ds_set (i := 6) sc_subscript_text.nd rfl (by first | exact .inl rfl | exact .inr rfl) (de_callB call_abs cd_abs (by rfl) (T.free 3) boot_abs (da_cons (dv 5) da_nil)))
    (dss_one (ds_expr (de_bm PySem.F.plainAttrs_list PySem.F.slot_list_append PySem.F.type_list_append mt_append md_append (dv 3) (da_cons (de_if (dt_cmp op_eq od_eq (dv 6) de_int (by first | rfl | exact nobehind _ (by decide) (by decide))) (dv 4) (de_joined (.cons (de_fmt (de_callG F_integer_text (hr.mono (by decide)) (T.glo 30) (da_cons (dv 6) da_nil))) (.cons de_str (.cons (de_fmt (dv 4)) .nil))))) da_nil)))))) dss_nil)))
    (dss_cons (ds_if (dt_cmp op_ne od_ne (dv 2) de_int (by first | rfl | exact nobehind _ (by decide) (by decide))) (dss_cons (ds_expr (de_bm PySem.F.plainAttrs_list PySem.F.slot_list_append PySem.F.type_list_append mt_append md_append (dv 3) (da_cons (de_if (dt_cmp op_gt od_gt (dv 2) de_int (by first | rfl | exact nobehind _ (by decide) (by decide))) de_str de_str) da_nil)))
    (dss_one (ds_expr (de_bm PySem.F.plainAttrs_list PySem.F.slot_list_append PySem.F.type_list_append mt_append md_append (dv 3) (da_cons (de_callG F_integer_text (hr.mono (by decide)) (T.glo 30) (da_cons (de_callB call_abs cd_abs (by rfl) (T.free 3) boot_abs (da_cons (dv 2) da_nil)) da_nil)) da_nil))))) dss_nil)
    (dss_cons (ds_if (dt_not (dt_tru (dv 3))) (dss_one (ds_ret de_str)) dss_nil)
    (dss_one (ds_ret (de_bm PySem.F.plainAttrs_str PySem.F.slot_str_join PySem.F.type_str_join mt_join md_join de_str (da_cons (de_if (dt_cmp op_eq od_eq (de_ix (dv 3) de_int) de_str (by first | rfl | exact nobehind _ (by decide) (by decide))) (de_slice (dv 3) (do_some de_int) do_none) (dv 3)) da_nil))))))))
theorem sc_touch_text : FnScope N_touch_text p_touch_text d_touch_text.scope := ⟨rfl, rfl, rfl, by decide +kernel, rfl, by decide +kernel, by decide +kernel⟩
theorem der_touch_text (T : Tp facts defs exOk K mg) (F_subscript_text : GDef Pg w K mg base k_subscript_text (He.fAd K d_subscript_text.at_) p_subscript_text (sp_subscript_text K)) : ∀ (cdv : Value) (A : Around) (outer : List PySem.Env) (s : Shared) (H : Hp) (E : XK), Room 2 (A.deeper (envOfC d_touch_text.qual d_touch_text.scope s.heap.objs.size (He.fAd K d_touch_text.at_) cdv)) →
    DSs (cxOf CX0 Pg w K mg base N_touch_text d_touch_text.qual d_touch_text.scope (He.fAd K d_touch_text.at_) cdv A outer s H E).nox d_touch_text.body (t_touch_text K) := fun cdv A outer s H E hr =>
  (dss_cons (ds_setLc (i := 3)  (own := [(("row" : Str), 4), (("offset" : Str), 5)]) rfl sc_touch_text.nd rfl rfl (by rfl) (di_seq (dv 2)) (blkOk_by (by first | rfl | decide +kernel)) (fun _ _ _ _ _ => (dg_tup rfl (dgs_cons (dg_name (i := 4) sc_touch_text.nd rfl (by first | exact .inl rfl | exact .inr rfl)) (dgs_cons (dg_name (i := 5) sc_touch_text.nd rfl (by first | exact .inl rfl | exact .inr rfl)) dgs_nil)))) (fun _ _ _ _ _ => dts_nil) (fun _ _ _ _ _ => (de_callG F_subscript_text (hr.mono (by decide)) (T.glo 31) (da_cons (dv 0) (da_cons (dv 4) (da_cons (dv 5) da_nil))))))
    (dss_cons (ds_if (dt_not (dt_tru (dv 3))) (dss_one (ds_ret (de_joined (.cons de_str (.cons (de_fmt (dv 1)) (.cons de_str .nil)))))) dss_nil)
    (dss_one (ds_ret (de_op op_plus od_plus (de_joined (.cons de_str (.cons (de_fmt (dv 1)) (.cons de_str .nil)))) (de_bm PySem.F.plainAttrs_str PySem.F.slot_str_join PySem.F.type_str_join mt_join md_join de_str (da_cons (dv 3) da_nil)))))))
theorem sc_nest_text : FnScope N_nest_text p_nest_text d_nest_text.scope := ⟨rfl, rfl, rfl, by decide +kernel, rfl, by decide +kernel, by decide +kernel⟩
theorem der_nest_text (T : Tp facts defs exOk K mg) (F_touch_text : GDef Pg w K mg base k_touch_text (He.fAd K d_touch_text.at_) p_touch_text (sp_touch_text K)) : ∀ (cdv : Value) (A : Around) (outer : List PySem.Env) (s : Shared) (H : Hp) (E : XK), Room 3 (A.deeper (envOfC d_nest_text.qual d_nest_text.scope s.heap.objs.size (He.fAd K d_nest_text.at_) cdv)) →
    DSs (cxOf CX0 Pg w K mg base N_nest_text d_nest_text.qual d_nest_text.scope (He.fAd K d_nest_text.at_) cdv A outer s H E).nox d_nest_text.body (t_nest_text K) := fun cdv A outer s H E hr =>
  (dss_cons (ds_set (i := 2) sc_nest_text.nd rfl (by first | exact .inl rfl | exact .inr rfl) (de_lstM (da_cons de_str (da_cons (de_op op_plus od_plus de_str (de_bm PySem.F.plainAttrs_str PySem.F.slot_str_join PySem.F.type_str_join mt_join md_join de_str (da_cons (dv 0) da_nil))) da_nil))))
    (dss_cons (ds_for PassesOwn.never rfl (di_seq (dv 1)) (dg_tup rfl (dgs_cons (dg_name (i := 3) sc_nest_text.nd rfl (by first | exact .inl rfl | exact .inr rfl)) (dgs_cons (dg_name (i := 4) sc_nest_text.nd rfl (by first | exact .inl rfl | exact .inr rfl)) dgs_nil))) (dss_one (ds_expr (de_bm PySem.F.plainAttrs_list PySem.F.slot_list_append PySem.F.type_list_append mt_append md_append (dv 2) (da_cons (de_callG F_touch_text (hr.mono (by decide)) (T.glo 32) (da_cons (dv 0) (da_cons (dv 3) (da_cons (dv 4) da_nil)))) da_nil)))))
    (dss_cons (ds_expr (de_bm PySem.F.plainAttrs_list PySem.F.slot_list_append PySem.F.type_list_append mt_append md_append (dv 2) (da_cons de_str da_nil)))
    (dss_one (ds_ret (de_bm PySem.F.plainAttrs_str PySem.F.slot_str_join PySem.F.type_str_join mt_join md_join de_str (da_cons (de_lc (own := [(("line" : Str), 5)]) rfl sc_nest_text.nd (di_seq (dv 2)) (blkOk_by (by first | rfl | decide +kernel)) (fun _ _ _ _ _ => (dg_name (i := 5) sc_nest_text.nd rfl (by first | exact .inl rfl | exact .inr rfl))) (fun _ _ _ _ _ => dts_nil) (fun _ _ _ _ _ => (de_op op_plus od_plus (dv 5) de_str))) da_nil)))))))
theorem sc_Nest_init : FnScope N_Nest_init p_Nest_init d_Nest_init.scope := ⟨rfl, rfl, rfl, by decide +kernel, rfl, by decide +kernel, by decide +kernel⟩
theorem der_Nest_init (T : Tp facts defs exOk K mg) (F_nest_text : GDef Pg w K mg base k_nest_text (He.fAd K d_nest_text.at_) p_nest_text (sp_nest_text K)) (F_look_at_touches : GDef Pg w K mg base k_look_at_touches (He.fAd K d_look_at_touches.at_) p_look_at_touches (sp_look_at_touches K)) (F_look_at_counters : GDef Pg w K mg base k_look_at_counters (He.fAd K d_look_at_counters.at_) p_look_at_counters (sp_look_at_counters K)) : ∀ (cdv : Value) (A : Around) (outer : List PySem.Env) (s : Shared) (H : Hp) (E : XK), Room 4 (A.deeper (envOfC d_Nest_init.qual d_Nest_init.scope s.heap.objs.size (He.fAd K d_Nest_init.at_) cdv)) →
    DSs (cxOf CX0 Pg w K mg base N_Nest_init d_Nest_init.qual d_Nest_init.scope (He.fAd K d_Nest_init.at_) cdv A outer s H E).nox d_Nest_init.body (t_Nest_init K) := fun cdv A outer s H E hr =>
  (dss_cons (ds_set (i := 3) sc_Nest_init.nd rfl (by first | exact .inl rfl | exact .inr rfl) (de_callTy call_list_of cd_list (by rfl) (T.free 0) boot_list (da_cons (dv 1) da_nil)))
    (dss_cons (ds_set (i := 4) sc_Nest_init.nd rfl (by first | exact .inl rfl | exact .inr rfl) (de_lstM da_nil))
    (dss_cons (ds_for PassesOwn.never rfl (di_seq (dv 2)) (dg_tup rfl (dgs_cons (dg_name (i := 5) sc_Nest_init.nd rfl (by first | exact .inl rfl | exact .inr rfl)) (dgs_cons (dg_name (i := 6) sc_Nest_init.nd rfl (by first | exact .inl rfl | exact .inr rfl)) dgs_nil))) (dss_one (ds_expr (de_bm PySem.F.plainAttrs_list PySem.F.slot_list_append PySem.F.type_list_append mt_append md_append (dv 4) (da_cons (de_tup (da_cons (dv 5) (da_cons (de_lc (own := [(("row" : Str), 7), (("offset" : Str), 8)]) rfl sc_Nest_init.nd (di_seq (dv 6)) (blkOk_by (by first | rfl | decide +kernel)) (fun _ _ _ _ _ => (dg_tup rfl (dgs_cons (dg_name (i := 7) sc_Nest_init.nd rfl (by first | exact .inl rfl | exact .inr rfl)) (dgs_cons (dg_name (i := 8) sc_Nest_init.nd rfl (by first | exact .inl rfl | exact .inr rfl)) dgs_nil)))) (fun _ _ _ _ _ => dts_nil) (fun _ _ _ _ _ => (de_tup (da_cons (de_callTy call_tuple_of cd_tuple (by rfl) (T.free 10) boot_tuple (da_cons (dv 7) da_nil)) (da_cons (dv 8) da_nil))))) da_nil))) da_nil)))))
    (dss_cons (ds_thaw (i := 4) (ds_expr (de_callG F_look_at_counters (hr.mono (by decide)) (T.glo 41) (da_cons (dv 3) da_nil))))
    (dss_cons (ds_expr (de_callG F_look_at_touches (hr.mono (by decide)) (T.glo 40) (da_cons (de_callB call_lenAll cd_len (by rfl) (T.free 2) boot_len (da_cons (dv 3) da_nil)) (da_cons (dv 4) da_nil))))
    (dss_cons (ds_fld (dv 0) (dv 3) (T.cls 34) (T.noat 39))
    (dss_cons (ds_fld (dv 0) (dv 4) (T.cls 34) (T.noat 38))
    (dss_cons (ds_fld (dv 0) (de_callB call_lenAll cd_len (by rfl) (T.free 2) boot_len (da_cons (dv 3) da_nil)) (T.cls 34) (T.noat 37))
    (dss_cons (ds_fld (dv 0) (de_callB call_lenAll cd_len (by rfl) (T.free 2) boot_len (da_cons (dv 4) da_nil)) (T.cls 34) (T.noat 36))
    (dss_one (ds_fld (dv 0) (de_callG F_nest_text (hr.mono (by decide)) (T.glo 33) (da_cons (dv 3) (da_cons (dv 4) da_nil))) (T.cls 34) (T.noat 35))))))))))))
theorem sc_Nest_eq : FnScope N_Nest_eq p_Nest_eq d_Nest_eq.scope := ⟨rfl, rfl, rfl, by decide +kernel, rfl, by decide +kernel, by decide +kernel⟩
theorem der_Nest_eq (T : Tp facts defs exOk K mg)  : ∀ (cdv : Value) (A : Around) (outer : List PySem.Env) (s : Shared) (H : Hp) (E : XK), Room 0 (A.deeper (envOfC d_Nest_eq.qual d_Nest_eq.scope s.heap.objs.size (He.fAd K d_Nest_eq.at_) cdv)) →
    DSs (cxOf CX0 Pg w K mg base N_Nest_eq d_Nest_eq.qual d_Nest_eq.scope (He.fAd K d_Nest_eq.at_) cdv A outer s H E).nox d_Nest_eq.body (t_Nest_eq K) := fun cdv A outer s H E hr =>
  (dss_one (ds_ret (de_and (de_callB (C8.call_isC (more_ins T)) cd_isC (by rfl) (T.free 8) boot_isinstance (da_cons (dv 1) (da_cons (de_cls (T.glo 42)) da_nil))) (de_one (de_cmp op_eq od_eq (de_fld (dv 0) (T.cls 34) (T.noat 35)) (de_fld (dv 1) (T.cls 34) (T.noat 35)) (by first | rfl | exact nobehind _ (by decide) (by decide)))))))
theorem sc__law_copied : FnScope N__law_copied p__law_copied d__law_copied.scope := ⟨rfl, rfl, rfl, by decide +kernel, rfl, by decide +kernel, by decide +kernel⟩
theorem der__law_copied (T : Tp facts defs exOk K mg) (F_Nest_init : GDef Pg w K mg base k_Nest_init (He.fAd K d_Nest_init.at_) p_Nest_init (sp_Nest_init K)) : ∀ (cdv : Value) (A : Around) (outer : List PySem.Env) (s : Shared) (H : Hp) (E : XK), Room 6 (A.deeper (envOfC d__law_copied.qual d__law_copied.scope s.heap.objs.size (He.fAd K d__law_copied.at_) cdv)) →
    DSs (cxOf CX0 Pg w K mg base N__law_copied d__law_copied.qual d__law_copied.scope (He.fAd K d__law_copied.at_) cdv A outer s H E).nox d__law_copied.body (t__law_copied K) := fun cdv A outer s H E hr =>
  (dss_one (ds_ret (de_frz (de_makeG F_Nest_init (T.mkr 43) (hr.mono (by decide)) (T.glo 42) (da_cons (de_callTy call_list_of cd_list (by rfl) (T.free 0) boot_list (da_cons (de_ix (dv 0) de_int) da_nil)) (da_cons (de_lc (own := [(("name" : Str), 1), (("subs" : Str), 2)]) rfl sc__law_copied.nd (di_seq (de_ix (dv 0) de_int)) (blkOk_by (by first | rfl | decide +kernel)) (fun _ _ _ _ _ => (dg_tup rfl (dgs_cons (dg_name (i := 1) sc__law_copied.nd rfl (by first | exact .inl rfl | exact .inr rfl)) (dgs_cons (dg_name (i := 2) sc__law_copied.nd rfl (by first | exact .inl rfl | exact .inr rfl)) dgs_nil)))) (fun _ _ _ _ _ => dts_nil) (fun _ _ _ _ _ => (de_tup (da_cons (dv 1) (da_cons (de_callTy call_list_of cd_list (by rfl) (T.free 0) boot_list (da_cons (dv 2) da_nil)) da_nil))))) da_nil))))))
theorem sc__law_points : FnScope N__law_points p__law_points d__law_points.scope := ⟨rfl, rfl, rfl, by decide +kernel, rfl, by decide +kernel, by decide +kernel⟩
theorem der__law_points (T : Tp facts defs exOk K mg) (F__law_of : GDef Pg w K mg base k__law_of (He.fAd K d__law_of.at_) p__law_of (sp__law_of K)) : ∀ (cdv : Value) (A : Around) (outer : List PySem.Env) (s : Shared) (H : Hp) (E : XK), Room 2 (A.deeper (envOfC d__law_points.qual d__law_points.scope s.heap.objs.size (He.fAd K d__law_points.at_) cdv)) →
    DSs (cxOf CX0 Pg w K mg base N__law_points d__law_points.qual d__law_points.scope (He.fAd K d__law_points.at_) cdv A outer s H E).nox d__law_points.body (t__law_points K) := fun cdv A outer s H E hr =>
  (dss_one (ds_ret (de_sortSet (by first | exact hr.units | exact uni1 hr | exact uni0 hr) (T.free 44) (T.free 45) rfl (de_lc (own := [(("at" : Str), 4)]) rfl sc__law_points.nd (di_range1 (by rfl) (T.free 6) (da_cons (dv 2) da_nil)) (blkOk_by (by first | rfl | decide +kernel)) (fun _ _ _ _ _ => (dg_name (i := 4) sc__law_points.nd rfl (by first | exact .inl rfl | exact .inr rfl))) (fun _ _ _ _ _ => dts_nil) (fun _ _ _ _ _ => (de_callTy call_tuple_of cd_tuple (by rfl) (T.free 10) boot_tuple (da_cons (de_lc (own := [(("k" : Str), 3)]) rfl sc__law_points.nd (di_range1 (by rfl) (T.free 6) (da_cons (dv 1) da_nil)) (blkOk_by (by first | rfl | decide +kernel)) (fun _ _ _ _ _ => (dg_name (i := 3) sc__law_points.nd rfl (by first | exact .inl rfl | exact .inr rfl))) (fun _ _ _ _ _ => dts_nil) (fun _ _ _ _ _ => (de_callG F__law_of (hr.mono (by decide)) (T.glo 15) (da_cons (dv 0) (da_cons (de_lst (da_cons de_int (da_cons de_int (da_cons de_int (da_cons (de_un un_neg ud_neg de_int) (da_cons de_int (da_cons de_int (da_cons (de_un un_neg ud_neg de_int) (da_cons (de_un un_neg ud_neg de_int) (da_cons de_int (da_cons de_int da_nil))))))))))) da_nil))))) da_nil)))))))
theorem sc__law_basis : FnScope N__law_basis p__law_basis d__law_basis.scope := ⟨rfl, rfl, rfl, by decide +kernel, rfl, by decide +kernel, by decide +kernel⟩
theorem der__law_basis (T : Tp facts defs exOk K mg) (F__law_of : GDef Pg w K mg base k__law_of (He.fAd K d__law_of.at_) p__law_of (sp__law_of K)) (F__law_draw : GDef Pg w K mg base k__law_draw (He.fAd K d__law_draw.at_) p__law_draw (sp__law_draw K)) (F__law_units : GDef Pg w K mg base k__law_units (He.fAd K d__law_units.at_) p__law_units (sp__law_units K)) : ∀ (cdv : Value) (A : Around) (outer : List PySem.Env) (s : Shared) (H : Hp) (E : XK), Room 2 (A.deeper (envOfC d__law_basis.qual d__law_basis.scope s.heap.objs.size (He.fAd K d__law_basis.at_) cdv)) →
    DSs (cxOf CX0 Pg w K mg base N__law_basis d__law_basis.qual d__law_basis.scope (He.fAd K d__law_basis.at_) cdv A outer s H E).nox d__law_basis.body (t__law_basis K) := fun cdv A outer s H E hr =>
  (dss_cons (ds_setLcM (i := 3)  (own := [(("unit" : Str), 4)]) rfl sc__law_basis.nd rfl rfl (by rfl) (di_seq (de_callG F__law_units (hr.mono (by decide)) (T.glo 47) (da_cons (dv 1) da_nil))) (blkOk_by (by first | rfl | decide +kernel)) (fun _ _ _ _ _ => (dg_name (i := 4) sc__law_basis.nd rfl (by first | exact .inl rfl | exact .inr rfl))) (fun _ _ _ _ _ => dts_nil) (fun _ _ _ _ _ => (de_callTy call_list_of cd_list (by rfl) (T.free 0) boot_list (da_cons (dv 4) da_nil))))
    (dss_cons (ds_for PassesOwn.never rfl (di_range1 (by rfl) (T.free 6) (da_cons (dv 2) da_nil)) (dg_name (i := 5) sc__law_basis.nd rfl (by first | exact .inl rfl | exact .inr rfl)) (dss_cons (ds_asg (de_tup (da_cons (de_callG F__law_draw (hr.mono (by decide)) (T.glo 4) (da_cons (dv 0) (da_cons (dv 1) da_nil))) (da_cons (de_callG F__law_draw (hr.mono (by decide)) (T.glo 4) (da_cons (dv 0) (da_cons (dv 1) da_nil))) (da_cons (de_callG F__law_of (hr.mono (by decide)) (T.glo 15) (da_cons (dv 0) (da_cons (de_lst (da_cons de_int (da_cons de_int (da_cons (de_un un_neg ud_neg de_int) (da_cons de_int (da_cons de_int da_nil)))))) da_nil))) da_nil)))) (dg_tup rfl (dgs_cons (dg_name (i := 6) sc__law_basis.nd rfl (by first | exact .inl rfl | exact .inr rfl)) (dgs_cons (dg_name (i := 7) sc__law_basis.nd rfl (by first | exact .inl rfl | exact .inr rfl)) (dgs_cons (dg_name (i := 8) sc__law_basis.nd rfl (by first | exact .inl rfl | exact .inr rfl)) dgs_nil)))))
    (dss_one (ds_if (dt_cmp op_eq od_eq (dv 6) (dv 7) (by first | rfl | exact nobehind _ (by decide) (by decide))) (dss_one (ds_setI (dv 3) (dv 6) (de_lc (own := [(("n" : Str), 9)]) rfl sc__law_basis.nd (di_seq (de_ix (dv 3) (dv 6))) (blkOk_by (by first | rfl | decide +kernel)) (fun _ _ _ _ _ => (dg_name (i := 9) sc__law_basis.nd rfl (by first | exact .inl rfl | exact .inr rfl))) (fun _ _ _ _ _ => dts_nil) (fun _ _ _ _ _ => (de_op op_sub od_sub de_int (dv 9)))))) (dss_one (ds_if (dt_cmp op_eq od_eq (dv 8) de_int (by first | rfl | exact nobehind _ (by decide) (by decide))) (dss_one (ds_asg2 (de_tup (da_cons (de_ix (dv 3) (dv 7)) (da_cons (de_ix (dv 3) (dv 6)) da_nil))) (dg2_tup rfl (dgs2_cons (dg2_sub (dv 3) (dv 6)) (dgs2_cons (dg2_sub (dv 3) (dv 7)) dgs2_nil))))) (dss_cons (ds_setLc (i := 10)  (own := [(("n" : Str), 9), (("m" : Str), 11)]) rfl sc__law_basis.nd rfl rfl (by rfl) (di_zip (by rfl) (T.free 11) (da_cons (de_ix (dv 3) (dv 6)) (da_cons (de_ix (dv 3) (dv 7)) da_nil))) (blkOk_by (by first | rfl | decide +kernel)) (fun _ _ _ _ _ => (dg_tup rfl (dgs_cons (dg_name (i := 9) sc__law_basis.nd rfl (by first | exact .inl rfl | exact .inr rfl)) (dgs_cons (dg_name (i := 11) sc__law_basis.nd rfl (by first | exact .inl rfl | exact .inr rfl)) dgs_nil)))) (fun _ _ _ _ _ => dts_nil) (fun _ _ _ _ _ => (de_op op_plus od_plus (dv 9) (de_op op_mulX od_mulX (dv 8) (dv 11)))))
    (dss_one (ds_if (dt_cmp op_lt od_lt (de_callB (cr_max rfl) cd_max (by rfl) (T.free 46) boot_max (da_cons (de_lc (own := [(("n" : Str), 9)]) rfl sc__law_basis.nd (di_seq (dv 10)) (blkOk_by (by first | rfl | decide +kernel)) (fun _ _ _ _ _ => (dg_name (i := 9) sc__law_basis.nd rfl (by first | exact .inl rfl | exact .inr rfl))) (fun _ _ _ _ _ => dts_nil) (fun _ _ _ _ _ => (de_callB call_abs cd_abs (by rfl) (T.free 3) boot_abs (da_cons (dv 9) da_nil)))) da_nil)) de_int (by first | rfl | exact nobehind _ (by decide) (by decide))) (dss_one (ds_setI (dv 3) (dv 6) (dv 10))) dss_nil)))))))))
    (dss_one (ds_ret (de_lc (own := [(("row" : Str), 10)]) rfl sc__law_basis.nd (di_seq (dv 3)) (blkOk_by (by first | rfl | decide +kernel)) (fun _ _ _ _ _ => (dg_name (i := 10) sc__law_basis.nd rfl (by first | exact .inl rfl | exact .inr rfl))) (fun _ _ _ _ _ => dts_nil) (fun _ _ _ _ _ => (de_callTy call_tuple_of cd_tuple (by rfl) (T.free 10) boot_tuple (da_cons (dv 10) da_nil))))))))
end
end K80
/-! K80D2 -/
namespace K80
open PySem PySem.Spec PyProof.Rows L2 L3
section
variable {Pg : Program} {w : World} {K : PySem.W.Frag} {mg : Str → Option Value} {base : Heap}
theorem sc__law_undone : FnScope N__law_undone p__law_undone d__law_undone.scope := ⟨rfl, rfl, rfl, by decide +kernel, rfl, by decide +kernel, by decide +kernel⟩
theorem der__law_undone (T : Tp facts defs exOk K mg)  : ∀ (cdv : Value) (A : Around) (outer : List PySem.Env) (s : Shared) (H : Hp) (E : XK), Room 0 (A.deeper (envOfC d__law_undone.qual d__law_undone.scope s.heap.objs.size (He.fAd K d__law_undone.at_) cdv)) →
    DSs (cxOf CX0 Pg w K mg base N__law_undone d__law_undone.qual d__law_undone.scope (He.fAd K d__law_undone.at_) cdv A outer s H E).nox d__law_undone.body (t__law_undone K) := fun cdv A outer s H E hr =>
  (dss_cons (ds_set (i := 1) sc__law_undone.nd rfl (by first | exact .inl rfl | exact .inr rfl) (de_callB call_lenAll cd_len (by rfl) (T.free 2) boot_len (da_cons (dv 0) da_nil)))
    (dss_cons (ds_set (i := 2) sc__law_undone.nd rfl (by first | exact .inl rfl | exact .inr rfl) (de_lcM (own := [(("k" : Str), 4)]) rfl sc__law_undone.nd (di_range1 (by rfl) (T.free 6) (da_cons (dv 1) da_nil)) (blkOk_by (by first | rfl | decide +kernel)) (fun _ _ _ _ _ => (dg_name (i := 4) sc__law_undone.nd rfl (by first | exact .inl rfl | exact .inr rfl))) (fun _ _ _ _ _ => dts_nil) (fun _ _ _ _ _ => (de_op op_plus od_plus (de_callTy call_list_of cd_list (by rfl) (T.free 0) boot_list (da_cons (de_ix (dv 0) (dv 4)) da_nil)) (de_lc (own := [(("i" : Str), 3)]) rfl sc__law_undone.nd (di_range1 (by rfl) (T.free 6) (da_cons (dv 1) da_nil)) (blkOk_by (by first | rfl | decide +kernel)) (fun _ _ _ _ _ => (dg_name (i := 3) sc__law_undone.nd rfl (by first | exact .inl rfl | exact .inr rfl))) (fun _ _ _ _ _ => dts_nil) (fun _ _ _ _ _ => (de_if (dt_cmp op_eq od_eq (dv 3) (dv 4) (by first | rfl | exact nobehind _ (by decide) (by decide))) de_int de_int)))))))
    (dss_cons (ds_for PassesOwn.never rfl (di_range1 (by rfl) (T.free 6) (da_cons (dv 1) da_nil)) (dg_name (i := 5) sc__law_undone.nd rfl (by first | exact .inl rfl | exact .inr rfl)) (dss_cons (ds_set (i := 6) sc__law_undone.nd rfl (by first | exact .inl rfl | exact .inr rfl) (de_lc (own := [(("k" : Str), 4)]) rfl sc__law_undone.nd (di_range2 (by rfl) (T.free 6) (da_cons (dv 5) (da_cons (dv 1) da_nil))) (blkOk_by (by first | rfl | decide +kernel)) (fun _ _ _ _ _ => (dg_name (i := 4) sc__law_undone.nd rfl (by first | exact .inl rfl | exact .inr rfl))) (fun _ _ _ _ _ => (dts_one (dt_cmp op_ne od_ne (de_ix (de_ix (dv 2) (dv 4)) (dv 5)) de_int (by first | rfl | exact nobehind _ (by decide) (by decide))))) (fun _ _ _ _ _ => (dv 4))))
    (dss_cons (ds_while PassesOwn.never (dt_cmp op_gt od_gt (de_callB call_lenAll cd_len (by rfl) (T.free 2) boot_len (da_cons (dv 6) da_nil)) de_int (by first | rfl | exact nobehind _ (by decide) (by decide))) (dss_cons (ds_set (i := 7) sc__law_undone.nd rfl (by first | exact .inl rfl | exact .inr rfl) (de_ix (dv 6) de_int))
    (dss_cons (ds_for PassesOwn.never rfl (di_seq (dv 6)) (dg_name (i := 4) sc__law_undone.nd rfl (by first | exact .inl rfl | exact .inr rfl)) (dss_one (ds_if (dt_cmp op_lt od_lt (de_callB call_abs cd_abs (by rfl) (T.free 3) boot_abs (da_cons (de_ix (de_ix (dv 2) (dv 4)) (dv 5)) da_nil)) (de_callB call_abs cd_abs (by rfl) (T.free 3) boot_abs (da_cons (de_ix (de_ix (dv 2) (dv 7)) (dv 5)) da_nil)) (by first | rfl | exact nobehind _ (by decide) (by decide))) (dss_one (ds_set (i := 7) sc__law_undone.nd rfl (by first | exact .inl rfl | exact .inr rfl) (dv 4))) dss_nil)))
    (dss_cons (ds_set (i := 8) sc__law_undone.nd rfl (by first | exact .inl rfl | exact .inr rfl) (de_ix (dv 2) (dv 7)))
    (dss_cons (ds_for PassesOwn.never rfl (di_seq (dv 6)) (dg_name (i := 4) sc__law_undone.nd rfl (by first | exact .inl rfl | exact .inr rfl)) (dss_one (ds_if (dt_cmp op_ne od_ne (dv 4) (dv 7) (by first | rfl | exact nobehind _ (by decide) (by decide))) (dss_cons (ds_set (i := 9) sc__law_undone.nd rfl (by first | exact .inl rfl | exact .inr rfl) (de_op op_fdivX od_divX (de_ix (de_ix (dv 2) (dv 4)) (dv 5)) (de_ix (dv 8) (dv 5))))
    (dss_one (ds_setI (dv 2) (dv 4) (de_lc (own := [(("p" : Str), 10), (("q" : Str), 11)]) rfl sc__law_undone.nd (di_zip (by rfl) (T.free 11) (da_cons (de_ix (dv 2) (dv 4)) (da_cons (dv 8) da_nil))) (blkOk_by (by first | rfl | decide +kernel)) (fun _ _ _ _ _ => (dg_tup rfl (dgs_cons (dg_name (i := 10) sc__law_undone.nd rfl (by first | exact .inl rfl | exact .inr rfl)) (dgs_cons (dg_name (i := 11) sc__law_undone.nd rfl (by first | exact .inl rfl | exact .inr rfl)) dgs_nil)))) (fun _ _ _ _ _ => dts_nil) (fun _ _ _ _ _ => (de_op op_sub od_sub (dv 10) (de_op op_mulX od_mulX (dv 9) (dv 11)))))))) dss_nil)))
    (dss_one (ds_set (i := 6) sc__law_undone.nd rfl (by first | exact .inl rfl | exact .inr rfl) (de_lc (own := [(("k" : Str), 4)]) rfl sc__law_undone.nd (di_range2 (by rfl) (T.free 6) (da_cons (dv 5) (da_cons (dv 1) da_nil))) (blkOk_by (by first | rfl | decide +kernel)) (fun _ _ _ _ _ => (dg_name (i := 4) sc__law_undone.nd rfl (by first | exact .inl rfl | exact .inr rfl))) (fun _ _ _ _ _ => (dts_one (dt_cmp op_ne od_ne (de_ix (de_ix (dv 2) (dv 4)) (dv 5)) de_int (by first | rfl | exact nobehind _ (by decide) (by decide))))) (fun _ _ _ _ _ => (dv 4))))))))))
    (dss_cons (ds_if (PW.pt (dw_or (dt_not (dt_tru (dv 6))) (dw_or1 (dt_cmp op_ne od_ne (de_callB call_abs cd_abs (by rfl) (T.free 3) boot_abs (da_cons (de_ix (de_ix (dv 2) (de_ix (dv 6) de_int)) (dv 5)) da_nil)) de_int (by first | rfl | exact nobehind _ (by decide) (by decide)))))) (dss_one (ds_ret de_non)) dss_nil)
    (dss_cons (ds_set (i := 8) sc__law_undone.nd rfl (by first | exact .inl rfl | exact .inr rfl) (de_lc (own := [(("n" : Str), 12)]) rfl sc__law_undone.nd (di_seq (de_ix (dv 2) (de_ix (dv 6) de_int))) (blkOk_by (by first | rfl | decide +kernel)) (fun _ _ _ _ _ => (dg_name (i := 12) sc__law_undone.nd rfl (by first | exact .inl rfl | exact .inr rfl))) (fun _ _ _ _ _ => dts_nil) (fun _ _ _ _ _ => (de_op op_mulX od_mulX (de_ix (de_ix (dv 2) (de_ix (dv 6) de_int)) (dv 5)) (dv 12)))))
    (dss_cons (ds_setI (dv 2) (de_ix (dv 6) de_int) (de_ix (dv 2) (dv 5)))
    (dss_cons (ds_setI (dv 2) (dv 5) (dv 8))
    (dss_one (ds_set (i := 2) sc__law_undone.nd rfl (by first | exact .inl rfl | exact .inr rfl) (de_lcM (own := [(("k" : Str), 4)]) rfl sc__law_undone.nd (di_range1 (by rfl) (T.free 6) (da_cons (dv 1) da_nil)) (blkOk_by (by first | rfl | decide +kernel)) (fun _ _ _ _ _ => (dg_name (i := 4) sc__law_undone.nd rfl (by first | exact .inl rfl | exact .inr rfl))) (fun _ _ _ _ _ => dts_nil) (fun _ _ _ _ _ => (de_if (dt_cmp op_eq od_eq (dv 4) (dv 5) (by first | rfl | exact nobehind _ (by decide) (by decide))) (de_ix (dv 2) (dv 4)) (de_lc (own := [(("p" : Str), 10), (("q" : Str), 11)]) rfl sc__law_undone.nd (di_zip (by rfl) (T.free 11) (da_cons (de_ix (dv 2) (dv 4)) (da_cons (dv 8) da_nil))) (blkOk_by (by first | rfl | decide +kernel)) (fun _ _ _ _ _ => (dg_tup rfl (dgs_cons (dg_name (i := 10) sc__law_undone.nd rfl (by first | exact .inl rfl | exact .inr rfl)) (dgs_cons (dg_name (i := 11) sc__law_undone.nd rfl (by first | exact .inl rfl | exact .inr rfl)) dgs_nil)))) (fun _ _ _ _ _ => dts_nil) (fun _ _ _ _ _ => (de_op op_sub od_sub (dv 10) (de_op op_mulX od_mulX (de_ix (de_ix (dv 2) (dv 4)) (dv 5)) (dv 11)))))))))))))))))
    (dss_one (ds_ret (de_lc (own := [(("row" : Str), 13)]) rfl sc__law_undone.nd (di_seq (dv 2)) (blkOk_by (by first | rfl | decide +kernel)) (fun _ _ _ _ _ => (dg_name (i := 13) sc__law_undone.nd rfl (by first | exact .inl rfl | exact .inr rfl))) (fun _ _ _ _ _ => dts_nil) (fun _ _ _ _ _ => (de_slice (dv 13) (do_some (dv 1)) do_none))))))))
theorem sc__law_place : FnScope N__law_place p__law_place d__law_place.scope := ⟨rfl, rfl, rfl, by decide +kernel, rfl, by decide +kernel, by decide +kernel⟩
theorem der__law_place (T : Tp facts defs exOk K mg)  : ∀ (cdv : Value) (A : Around) (outer : List PySem.Env) (s : Shared) (H : Hp) (E : XK), Room 0 (A.deeper (envOfC d__law_place.qual d__law_place.scope s.heap.objs.size (He.fAd K d__law_place.at_) cdv)) →
    DSs (cxOf CX0 Pg w K mg base N__law_place d__law_place.qual d__law_place.scope (He.fAd K d__law_place.at_) cdv A outer s H E).nox d__law_place.body (t__law_place K) := fun cdv A outer s H E hr =>
  (dss_one (ds_ret (de_callTy call_tuple_of cd_tuple (by rfl) (T.free 10) boot_tuple (da_cons (de_lc (own := [(("a" : Str), 4)]) rfl sc__law_place.nd (di_range1 (by rfl) (T.free 6) (da_cons (de_callB call_lenAll cd_len (by rfl) (T.free 2) boot_len (da_cons (dv 0) da_nil)) da_nil)) (blkOk_by (by first | rfl | decide +kernel)) (fun _ _ _ _ _ => (dg_name (i := 4) sc__law_place.nd rfl (by first | exact .inl rfl | exact .inr rfl))) (fun _ _ _ _ _ => dts_nil) (fun _ _ _ _ _ => (de_callB (cr_sum rfl) cd_sum (by rfl) (T.free 48) boot_sum (da_cons (de_lc (own := [(("x" : Str), 2), (("row" : Str), 3)]) rfl sc__law_place.nd (di_zip (by rfl) (T.free 11) (da_cons (dv 1) (da_cons (dv 0) da_nil))) (blkOk_by (by first | rfl | decide +kernel)) (fun _ _ _ _ _ => (dg_tup rfl (dgs_cons (dg_name (i := 2) sc__law_place.nd rfl (by first | exact .inl rfl | exact .inr rfl)) (dgs_cons (dg_name (i := 3) sc__law_place.nd rfl (by first | exact .inl rfl | exact .inr rfl)) dgs_nil)))) (fun _ _ _ _ _ => dts_nil) (fun _ _ _ _ _ => (de_op op_mulX od_mulX (dv 2) (de_ix (dv 3) (dv 4))))) da_nil)))) da_nil))))
theorem sc__law_home : FnScope N__law_home p__law_home d__law_home.scope := ⟨rfl, rfl, rfl, by decide +kernel, rfl, by decide +kernel, by decide +kernel⟩
theorem der__law_home (T : Tp facts defs exOk K mg)  : ∀ (cdv : Value) (A : Around) (outer : List PySem.Env) (s : Shared) (H : Hp) (E : XK), Room 0 (A.deeper (envOfC d__law_home.qual d__law_home.scope s.heap.objs.size (He.fAd K d__law_home.at_) cdv)) →
    DSs (cxOf CX0 Pg w K mg base N__law_home d__law_home.qual d__law_home.scope (He.fAd K d__law_home.at_) cdv A outer s H E).nox d__law_home.body (t__law_home K) := fun cdv A outer s H E hr =>
  (dss_one (ds_ret (de_callTy call_tuple_of cd_tuple (by rfl) (T.free 10) boot_tuple (da_cons (de_lc (own := [(("u" : Str), 2), (("side" : Str), 3)]) rfl sc__law_home.nd (di_zip (by rfl) (T.free 11) (da_cons (dv 0) (da_cons (dv 1) da_nil))) (blkOk_by (by first | rfl | decide +kernel)) (fun _ _ _ _ _ => (dg_tup rfl (dgs_cons (dg_name (i := 2) sc__law_home.nd rfl (by first | exact .inl rfl | exact .inr rfl)) (dgs_cons (dg_name (i := 3) sc__law_home.nd rfl (by first | exact .inl rfl | exact .inr rfl)) dgs_nil)))) (fun _ _ _ _ _ => dts_nil) (fun _ _ _ _ _ => (de_op op_fdivX od_divX (dv 2) (dv 3)))) da_nil))))
theorem sc__law_parts : FnScope N__law_parts p__law_parts d__law_parts.scope := ⟨rfl, rfl, rfl, by decide +kernel, rfl, by decide +kernel, by decide +kernel⟩
theorem der__law_parts (T : Tp facts defs exOk K mg) (F__law_home : GDef Pg w K mg base k__law_home (He.fAd K d__law_home.at_) p__law_home (sp__law_home K)) (F__law_place : GDef Pg w K mg base k__law_place (He.fAd K d__law_place.at_) p__law_place (sp__law_place K)) : ∀ (cdv : Value) (A : Around) (outer : List PySem.Env) (s : Shared) (H : Hp) (E : XK), Room 1 (A.deeper (envOfC d__law_parts.qual d__law_parts.scope s.heap.objs.size (He.fAd K d__law_parts.at_) cdv)) →
    DSs (cxOf CX0 Pg w K mg base N__law_parts d__law_parts.qual d__law_parts.scope (He.fAd K d__law_parts.at_) cdv A outer s H E).nox d__law_parts.body (t__law_parts K) := fun cdv A outer s H E hr =>
  (dss_cons (ds_set (i := 3) sc__law_parts.nd rfl (by first | exact .inl rfl | exact .inr rfl) de_dnewT)
    (dss_cons (ds_for PassesOwn.never rfl (di_seq (dv 2)) (dg_name (i := 4) sc__law_parts.nd rfl (by first | exact .inl rfl | exact .inr rfl)) (dss_cons (ds_set (i := 5) sc__law_parts.nd rfl (by first | exact .inl rfl | exact .inr rfl) (de_callG F__law_place (hr.mono (by decide)) (T.glo 50) (da_cons (dv 0) (da_cons (dv 4) da_nil))))
    (dss_cons (ds_set (i := 6) sc__law_parts.nd rfl (by first | exact .inl rfl | exact .inr rfl) (de_dsetdT (by first | exact hr.units | exact uni1 hr | exact uni0 hr) (dv 3) (de_callG F__law_home (hr.mono (by decide)) (T.glo 49) (da_cons (dv 5) (da_cons (dv 1) da_nil))) (de_lstM da_nil) ⟨by rfl, by rfl, by rfl, by rfl⟩))
    (dss_one (ds_expr (de_bm PySem.F.plainAttrs_list PySem.F.slot_list_append PySem.F.type_list_append mt_append md_append (dv 6) (da_cons (de_tup (da_cons (dv 5) (da_cons (dv 4) da_nil))) da_nil)))))))
    (dss_one (ds_ret (de_lc (own := [(("home" : Str), 7)]) rfl sc__law_parts.nd (di_seq (de_callB (cr_sortDT rfl (by first | exact hr.units | exact uni1 hr | exact uni0 hr)) cd_sortDT (by rfl) (T.free 44) boot_sorted (da_cons (dv 3) da_nil))) (blkOk_by (by first | rfl | decide +kernel)) (fun _ _ _ _ _ => (dg_name (i := 7) sc__law_parts.nd rfl (by first | exact .inl rfl | exact .inr rfl))) (fun _ _ _ _ _ => dts_nil) (fun _ _ _ _ _ => (de_tup (da_cons (dv 7) (da_cons (de_lc (own := [(("place" : Str), 5), (("point" : Str), 4)]) rfl sc__law_parts.nd (di_seq (de_callB (cr_sortD (by first | exact hr.units | exact uni1 hr | exact uni0 hr)) cd_sortD (by rfl) (T.free 44) boot_sorted (da_cons (de_dget (by first | exact hr.units | exact uni1 hr | exact uni0 hr) (dv 3) (dv 7)) da_nil))) (blkOk_by (by first | rfl | decide +kernel)) (fun _ _ _ _ _ => (dg_tup rfl (dgs_cons (dg_name (i := 5) sc__law_parts.nd rfl (by first | exact .inl rfl | exact .inr rfl)) (dgs_cons (dg_name (i := 4) sc__law_parts.nd rfl (by first | exact .inl rfl | exact .inr rfl)) dgs_nil)))) (fun _ _ _ _ _ => dts_nil) (fun _ _ _ _ _ => (dv 4))) da_nil)))))))))
theorem sc__law_other : FnScope N__law_other p__law_other d__law_other.scope := ⟨rfl, rfl, rfl, by decide +kernel, rfl, by decide +kernel, by decide +kernel⟩
theorem der__law_other (T : Tp facts defs exOk K mg) (F__law_draw : GDef Pg w K mg base k__law_draw (He.fAd K d__law_draw.at_) p__law_draw (sp__law_draw K)) : ∀ (cdv : Value) (A : Around) (outer : List PySem.Env) (s : Shared) (H : Hp) (E : XK), Room 1 (A.deeper (envOfC d__law_other.qual d__law_other.scope s.heap.objs.size (He.fAd K d__law_other.at_) cdv)) →
    DSs (cxOf CX0 Pg w K mg base N__law_other d__law_other.qual d__law_other.scope (He.fAd K d__law_other.at_) cdv A outer s H E).nox d__law_other.body (t__law_other K) := fun cdv A outer s H E hr =>
  (dss_cons (ds_asg (de_tup (da_cons (de_callG F__law_draw (hr.mono (by decide)) (T.glo 4) (da_cons (dv 0) (da_cons de_int da_nil))) (da_cons (de_ix (dv 1) de_int) (da_cons (de_ix (dv 1) de_int) da_nil)))) (dg_tup rfl (dgs_cons (dg_name (i := 2) sc__law_other.nd rfl (by first | exact .inl rfl | exact .inr rfl)) (dgs_cons (dg_name (i := 3) sc__law_other.nd rfl (by first | exact .inl rfl | exact .inr rfl)) (dgs_cons (dg_name (i := 4) sc__law_other.nd rfl (by first | exact .inl rfl | exact .inr rfl)) dgs_nil)))))
    (dss_cons (ds_if (dt_cmp op_eq od_eq (dv 2) de_int (by first | rfl | exact nobehind _ (by decide) (by decide))) (dss_one (ds_ret (de_tup (da_cons (dv 3) (da_cons (de_op op_plus od_plus (dv 4) (de_lst (da_cons (de_ix (dv 4) de_int) da_nil))) da_nil))))) dss_nil)
    (dss_cons (ds_if (PW.pt (dw_and (dt_cmp op_eq od_eq (dv 2) de_int (by first | rfl | exact nobehind _ (by decide) (by decide))) (dw_and1 (dt_tru (de_ix (de_ix (dv 4) (de_un un_neg ud_neg de_int)) de_int))))) (dss_cons (ds_set (i := 5) sc__law_other.nd rfl (by first | exact .inl rfl | exact .inr rfl) (de_ix (de_ix (dv 4) (de_un un_neg ud_neg de_int)) de_int))
    (dss_one (ds_ret (de_tup (da_cons (dv 3) (da_cons (de_op op_plus od_plus (de_slice (dv 4) do_none (do_some (de_un un_neg ud_neg de_int))) (de_lst (da_cons (de_tup (da_cons (de_ix (de_ix (dv 4) (de_un un_neg ud_neg de_int)) de_int) (da_cons (de_op op_plus od_plus (de_lst (da_cons (de_tup (da_cons (de_ix (de_ix (dv 5) de_int) de_int) (da_cons (de_op op_plus od_plus (de_ix (de_ix (dv 5) de_int) de_int) de_int) da_nil))) da_nil)) (de_callTy call_list_of cd_list (by rfl) (T.free 0) boot_list (da_cons (de_slice (dv 5) (do_some de_int) do_none) da_nil))) da_nil))) da_nil))) da_nil)))))) dss_nil)
    (dss_one (ds_ret (de_tup (da_cons (de_op op_plus od_plus (de_slice (dv 3) do_none (do_some (de_un un_neg ud_neg de_int))) (de_lst (da_cons (de_ix (de_lc (own := [(("own" : Str), 6)]) rfl sc__law_other.nd (di_seq (de_lst (da_cons de_str (da_cons de_str (da_cons de_str (da_cons de_str (da_cons de_str da_nil))))))) (blkOk_by (by first | rfl | decide +kernel)) (fun _ _ _ _ _ => (dg_name (i := 6) sc__law_other.nd rfl (by first | exact .inl rfl | exact .inr rfl))) (fun _ _ _ _ _ => (dts_one (dt_cmp op_notInAll od_in (dv 6) (dv 3) (by first | rfl | exact nobehind _ (by decide) (by decide))))) (fun _ _ _ _ _ => (dv 6))) de_int) da_nil))) (da_cons (dv 4) da_nil))))))))
theorem sc_row_text : FnScope N_row_text p_row_text d_row_text.scope := ⟨rfl, rfl, rfl, by decide +kernel, rfl, by decide +kernel, by decide +kernel⟩
theorem der_row_text (T : Tp facts defs exOk K mg) (F_integer_text : GDef Pg w K mg base k_integer_text (He.fAd K d_integer_text.at_) p_integer_text (sp_integer_text K)) : ∀ (cdv : Value) (A : Around) (outer : List PySem.Env) (s : Shared) (H : Hp) (E : XK), Room 1 (A.deeper (envOfC d_row_text.qual d_row_text.scope s.heap.objs.size (He.fAd K d_row_text.at_) cdv)) →
    DSs (cxOf CX0 Pg w K mg base N_row_text d_row_text.qual d_row_text.scope (He.fAd K d_row_text.at_) cdv A outer s H E).nox d_row_text.body (t_row_text K) := fun cdv A outer s H E hr =>
  (dss_one (ds_ret (de_bm PySem.F.plainAttrs_str PySem.F.slot_str_join PySem.F.type_str_join mt_join md_join de_str (da_cons (de_lc (own := [(("value" : Str), 1)]) rfl sc_row_text.nd (di_seq (dv 0)) (blkOk_by (by first | rfl | decide +kernel)) (fun _ _ _ _ _ => (dg_name (i := 1) sc_row_text.nd rfl (by first | exact .inl rfl | exact .inr rfl))) (fun _ _ _ _ _ => dts_nil) (fun _ _ _ _ _ => (de_callG F_integer_text (hr.mono (by decide)) (T.glo 30) (da_cons (dv 1) da_nil)))) da_nil))))
theorem sc_rows_text : FnScope N_rows_text p_rows_text d_rows_text.scope := ⟨rfl, rfl, rfl, by decide +kernel, rfl, by decide +kernel, by decide +kernel⟩
theorem der_rows_text (T : Tp facts defs exOk K mg) (F_row_text : GDef Pg w K mg base k_row_text (He.fAd K d_row_text.at_) p_row_text (sp_row_text K)) : ∀ (cdv : Value) (A : Around) (outer : List PySem.Env) (s : Shared) (H : Hp) (E : XK), Room 2 (A.deeper (envOfC d_rows_text.qual d_rows_text.scope s.heap.objs.size (He.fAd K d_rows_text.at_) cdv)) →
    DSs (cxOf CX0 Pg w K mg base N_rows_text d_rows_text.qual d_rows_text.scope (He.fAd K d_rows_text.at_) cdv A outer s H E).nox d_rows_text.body (t_rows_text K) := fun cdv A outer s H E hr =>
  (dss_cons (ds_if (dt_not (dt_tru (dv 0))) (dss_one (ds_ret de_str)) dss_nil)
    (dss_one (ds_ret (de_bm PySem.F.plainAttrs_str PySem.F.slot_str_join PySem.F.type_str_join mt_join md_join de_str (da_cons (de_lc (own := [(("row" : Str), 1)]) rfl sc_rows_text.nd (di_seq (dv 0)) (blkOk_by (by first | rfl | decide +kernel)) (fun _ _ _ _ _ => (dg_name (i := 1) sc_rows_text.nd rfl (by first | exact .inl rfl | exact .inr rfl))) (fun _ _ _ _ _ => dts_nil) (fun _ _ _ _ _ => (de_callG F_row_text (hr.mono (by decide)) (T.glo 51) (da_cons (dv 1) da_nil)))) da_nil)))))
theorem sc_Lot_init : FnScope N_Lot_init p_Lot_init d_Lot_init.scope := ⟨rfl, rfl, rfl, by decide +kernel, rfl, by decide +kernel, by decide +kernel⟩
theorem der_Lot_init (T : Tp facts defs exOk K mg) (F_rows_text : GDef Pg w K mg base k_rows_text (He.fAd K d_rows_text.at_) p_rows_text (sp_rows_text K)) : ∀ (cdv : Value) (A : Around) (outer : List PySem.Env) (s : Shared) (H : Hp) (E : XK), Room 3 (A.deeper (envOfC d_Lot_init.qual d_Lot_init.scope s.heap.objs.size (He.fAd K d_Lot_init.at_) cdv)) →
    DSs (cxOf CX0 Pg w K mg base N_Lot_init d_Lot_init.qual d_Lot_init.scope (He.fAd K d_Lot_init.at_) cdv A outer s H E).nox d_Lot_init.body (t_Lot_init K) := fun cdv A outer s H E hr =>
  (dss_cons (ds_for PassesOwn.never rfl (di_enum (by rfl) (T.free 26) (da_cons (dv 2) da_nil)) (dg_tup rfl (dgs_cons (dg_name (i := 3) sc_Lot_init.nd rfl (by first | exact .inl rfl | exact .inr rfl)) (dgs_cons (dg_name (i := 4) sc_Lot_init.nd rfl (by first | exact .inl rfl | exact .inr rfl)) dgs_nil))) (dss_one (ds_if (dt_cmp op_ne od_ne (de_callB call_lenAll cd_len (by rfl) (T.free 2) boot_len (da_cons (dv 4) da_nil)) (de_fld (dv 1) (T.cls 34) (T.noat 37)) (by first | rfl | exact nobehind _ (by decide) (by decide))) (dss_one ds_never) dss_nil)))
    (dss_cons (ds_fld (dv 0) (dv 1) (T.cls 53) (T.noat 57))
    (dss_cons (ds_fld (dv 0) (de_sortSc (own := [(("point" : Str), 4)]) (by first | exact hr.units | exact uni1 hr | exact uni0 hr) (T.free 44) rfl sc_Lot_init.nd (di_seq (dv 2)) (blkOk_by (by first | rfl | decide +kernel)) (fun _ _ _ _ _ => (dg_name (i := 4) sc_Lot_init.nd rfl (by first | exact .inl rfl | exact .inr rfl))) (fun _ _ _ _ _ => dts_nil) (fun _ _ _ _ _ => (de_callTy call_tuple_of cd_tuple (by rfl) (T.free 10) boot_tuple (da_cons (dv 4) da_nil)))) (T.cls 53) (T.noat 54))
    (dss_cons (ds_fld (dv 0) (de_dc keyT (own := [(("point" : Str), 4)]) (by first | exact hr.units | exact uni1 hr | exact uni0 hr) rfl sc_Lot_init.nd (di_seq (de_fld (dv 0) (T.cls 53) (T.noat 54))) (blkOk_by (by first | rfl | decide +kernel)) (fun _ _ _ _ _ => (dg_name (i := 4) sc_Lot_init.nd rfl (by first | exact .inl rfl | exact .inr rfl))) (fun _ _ _ _ _ => dts_nil) (fun _ _ _ _ _ => (dv 4)) (fun _ _ _ _ _ => de_bl)) (T.cls 53) (T.noat 56))
    (dss_one (ds_fld (dv 0) (de_callG F_rows_text (hr.mono (by decide)) (T.glo 52) (da_cons (de_fld (dv 0) (T.cls 53) (T.noat 54)) da_nil)) (T.cls 53) (T.noat 55)))))))
theorem sc_Lot_points : FnScope N_Lot_points p_Lot_points d_Lot_points.scope := ⟨rfl, rfl, rfl, by decide +kernel, rfl, by decide +kernel, by decide +kernel⟩
theorem der_Lot_points (T : Tp facts defs exOk K mg)  : ∀ (cdv : Value) (A : Around) (outer : List PySem.Env) (s : Shared) (H : Hp) (E : XK), Room 0 (A.deeper (envOfC d_Lot_points.qual d_Lot_points.scope s.heap.objs.size (He.fAd K d_Lot_points.at_) cdv)) →
    DSs (cxOf CX0 Pg w K mg base N_Lot_points d_Lot_points.qual d_Lot_points.scope (He.fAd K d_Lot_points.at_) cdv A outer s H E).nox d_Lot_points.body (t_Lot_points K) := fun cdv A outer s H E hr =>
  (dss_one (ds_ret (de_callTy call_list_of cd_list (by rfl) (T.free 0) boot_list (da_cons (de_fld (dv 0) (T.cls 53) (T.noat 54)) da_nil))))
theorem sc_look_alike : FnScope N_look_alike p_look_alike d_look_alike.scope := ⟨rfl, rfl, rfl, by decide +kernel, rfl, by decide +kernel, by decide +kernel⟩
theorem der_look_alike (T : Tp facts defs exOk K mg) (F_Nest_eq : GDef Pg w K mg base k_Nest_eq (He.fAd K d_Nest_eq.at_) p_Nest_eq (sp_Nest_eq K)) : ∀ (cdv : Value) (A : Around) (outer : List PySem.Env) (s : Shared) (H : Hp) (E : XK), Room 1 (A.deeper (envOfC d_look_alike.qual d_look_alike.scope s.heap.objs.size (He.fAd K d_look_alike.at_) cdv)) →
    DSs (cxOf CX0 Pg w K mg base N_look_alike d_look_alike.qual d_look_alike.scope (He.fAd K d_look_alike.at_) cdv A outer s H E).nox d_look_alike.body (t_look_alike K) := fun cdv A outer s H E hr =>
  (dss_one (ds_if (dt_not (dt_eqOwn F_Nest_eq (hr.mono (by decide)) (T.meth 58) (de_fld (dv 0) (T.cls 53) (T.noat 57)) (de_fld (dv 1) (T.cls 53) (T.noat 57)))) (dss_one ds_never) dss_nil))
theorem sc_Lot_sub : FnScope N_Lot_sub p_Lot_sub d_Lot_sub.scope := ⟨rfl, rfl, rfl, by decide +kernel, rfl, by decide +kernel, by decide +kernel⟩
theorem der_Lot_sub (T : Tp facts defs exOk K mg) (F_Lot_init : GDef Pg w K mg base k_Lot_init (He.fAd K d_Lot_init.at_) p_Lot_init (sp_Lot_init K)) (F_look_alike : GDef Pg w K mg base k_look_alike (He.fAd K d_look_alike.at_) p_look_alike (sp_look_alike K)) : ∀ (cdv : Value) (A : Around) (outer : List PySem.Env) (s : Shared) (H : Hp) (E : XK), Room 5 (A.deeper (envOfC d_Lot_sub.qual d_Lot_sub.scope s.heap.objs.size (He.fAd K d_Lot_sub.at_) cdv)) →
    DSs (cxOf CX0 Pg w K mg base N_Lot_sub d_Lot_sub.qual d_Lot_sub.scope (He.fAd K d_Lot_sub.at_) cdv A outer s H E).nox d_Lot_sub.body (t_Lot_sub K) := fun cdv A outer s H E hr =>
  (dss_cons (ds_expr (de_callG F_look_alike (hr.mono (by decide)) (T.glo 61) (da_cons (dv 0) (da_cons (dv 1) da_nil))))
    (dss_one (ds_ret (de_frz (de_makeG F_Lot_init (T.mkr 60) (hr.mono (by decide)) (T.glo 59) (da_cons (de_fld (dv 0) (T.cls 53) (T.noat 57)) (da_cons (de_lc (own := [(("point" : Str), 2)]) rfl sc_Lot_sub.nd (di_seq (de_fld (dv 0) (T.cls 53) (T.noat 54))) (blkOk_by (by first | rfl | decide +kernel)) (fun _ _ _ _ _ => (dg_name (i := 2) sc_Lot_sub.nd rfl (by first | exact .inl rfl | exact .inr rfl))) (fun _ _ _ _ _ => (dts_one (dt_dnotin (by first | exact hr.units | exact uni1 hr | exact uni0 hr) (dv 2) (de_fld (dv 1) (T.cls 53) (T.noat 56)) (by first | rfl | exact nobehind _ (by decide) (by decide))))) (fun _ _ _ _ _ => (dv 2))) da_nil)))))))
theorem sc_Lot_and : FnScope N_Lot_and p_Lot_and d_Lot_and.scope := ⟨rfl, rfl, rfl, by decide +kernel, rfl, by decide +kernel, by decide +kernel⟩
theorem der_Lot_and (T : Tp facts defs exOk K mg) (F_Lot_init : GDef Pg w K mg base k_Lot_init (He.fAd K d_Lot_init.at_) p_Lot_init (sp_Lot_init K)) (F_look_alike : GDef Pg w K mg base k_look_alike (He.fAd K d_look_alike.at_) p_look_alike (sp_look_alike K)) : ∀ (cdv : Value) (A : Around) (outer : List PySem.Env) (s : Shared) (H : Hp) (E : XK), Room 5 (A.deeper (envOfC d_Lot_and.qual d_Lot_and.scope s.heap.objs.size (He.fAd K d_Lot_and.at_) cdv)) →
    DSs (cxOf CX0 Pg w K mg base N_Lot_and d_Lot_and.qual d_Lot_and.scope (He.fAd K d_Lot_and.at_) cdv A outer s H E).nox d_Lot_and.body (t_Lot_and K) := fun cdv A outer s H E hr =>
  (dss_cons (ds_expr (de_callG F_look_alike (hr.mono (by decide)) (T.glo 61) (da_cons (dv 0) (da_cons (dv 1) da_nil))))
    (dss_one (ds_ret (de_frz (de_makeG F_Lot_init (T.mkr 60) (hr.mono (by decide)) (T.glo 59) (da_cons (de_fld (dv 0) (T.cls 53) (T.noat 57)) (da_cons (de_lc (own := [(("point" : Str), 2)]) rfl sc_Lot_and.nd (di_seq (de_fld (dv 0) (T.cls 53) (T.noat 54))) (blkOk_by (by first | rfl | decide +kernel)) (fun _ _ _ _ _ => (dg_name (i := 2) sc_Lot_and.nd rfl (by first | exact .inl rfl | exact .inr rfl))) (fun _ _ _ _ _ => (dts_one (dt_din (by first | exact hr.units | exact uni1 hr | exact uni0 hr) (dv 2) (de_fld (dv 1) (T.cls 53) (T.noat 56)) (by first | rfl | exact nobehind _ (by decide) (by decide))))) (fun _ _ _ _ _ => (dv 2))) da_nil)))))))
theorem sc_determinant : FnScope N_determinant p_determinant d_determinant.scope := ⟨rfl, rfl, rfl, by decide +kernel, rfl, by decide +kernel, by decide +kernel⟩
theorem der_determinant (T : Tp facts defs exOk K mg)  : ∀ (cdv : Value) (A : Around) (outer : List PySem.Env) (s : Shared) (H : Hp) (E : XK), Room 0 (A.deeper (envOfC d_determinant.qual d_determinant.scope s.heap.objs.size (He.fAd K d_determinant.at_) cdv)) →
    DSs (cxOf CX0 Pg w K mg base N_determinant d_determinant.qual d_determinant.scope (He.fAd K d_determinant.at_) cdv A outer s H E).nox d_determinant.body (t_determinant K) := fun cdv A outer s H E hr =>
  (dss_cons (ds_set (i := 1) sc_determinant.nd rfl (by first | exact .inl rfl | exact .inr rfl) de_int)
    (dss_cons (ds_setLc (i := 2)  (own := [(("row" : Str), 3)]) rfl sc_determinant.nd rfl rfl (by rfl) (di_seq (dv 0)) (blkOk_by (by first | rfl | decide +kernel)) (fun _ _ _ _ _ => (dg_name (i := 3) sc_determinant.nd rfl (by first | exact .inl rfl | exact .inr rfl))) (fun _ _ _ _ _ => dts_nil) (fun _ _ _ _ _ => (de_callTy call_list_of cd_list (by rfl) (T.free 0) boot_list (da_cons (dv 3) da_nil))))
    (dss_cons (ds_while PassesOwn.never (dt_tru (dv 2)) (dss_cons (ds_setLc (i := 4)  (own := [(("at" : Str), 5), (("row" : Str), 3)]) rfl sc_determinant.nd rfl rfl (by rfl) (di_enum (by rfl) (T.free 26) (da_cons (dv 2) da_nil)) (blkOk_by (by first | rfl | decide +kernel)) (fun _ _ _ _ _ => (dg_tup rfl (dgs_cons (dg_name (i := 5) sc_determinant.nd rfl (by first | exact .inl rfl | exact .inr rfl)) (dgs_cons (dg_name (i := 3) sc_determinant.nd rfl (by first | exact .inl rfl | exact .inr rfl)) dgs_nil)))) (fun _ _ _ _ _ => (dts_one (dt_cmp op_ne od_ne (de_ix (dv 3) de_int) de_int (by first | rfl | exact nobehind _ (by decide) (by decide))))) (fun _ _ _ _ _ => (dv 5)))
    (dss_cons (ds_if (dt_not (dt_tru (dv 4))) (dss_one (ds_ret de_int)) dss_nil)
    (dss_cons (ds_set (i := 6) sc_determinant.nd rfl (by first | exact .inl rfl | exact .inr rfl) (de_ix (dv 2) (de_ix (dv 4) de_int)))
    (dss_cons (ds_set (i := 7) sc_determinant.nd rfl (by first | exact .inl rfl | exact .inr rfl) (de_op op_plus od_plus (de_slice (dv 2) do_none (do_some (de_ix (dv 4) de_int))) (de_slice (dv 2) (do_some (de_op op_plus od_plus (de_ix (dv 4) de_int) de_int)) do_none)))
    (dss_cons (ds_setLc (i := 2)  (own := [(("row" : Str), 3)]) rfl sc_determinant.nd rfl rfl (by rfl) (di_seq (dv 7)) (blkOk_by (by first | rfl | decide +kernel)) (fun _ _ _ _ _ => (dg_name (i := 3) sc_determinant.nd rfl (by first | exact .inl rfl | exact .inr rfl))) (fun _ _ _ _ _ => dts_nil) (fun _ _ _ _ _ => (de_lc (own := [(("place" : Str), 8)]) rfl sc_determinant.nd (di_range2 (by rfl) (T.free 6) (da_cons de_int (da_cons (de_callB call_lenAll cd_len (by rfl) (T.free 2) boot_len (da_cons (dv 3) da_nil)) da_nil))) (blkOk_by (by first | rfl | decide +kernel)) (fun _ _ _ _ _ => (dg_name (i := 8) sc_determinant.nd rfl (by first | exact .inl rfl | exact .inr rfl))) (fun _ _ _ _ _ => dts_nil) (fun _ _ _ _ _ => (de_op op_fdivX od_divX (de_op op_sub od_sub (de_op op_mulX od_mulX (de_ix (dv 6) de_int) (de_ix (dv 3) (dv 8))) (de_op op_mulX od_mulX (de_ix (dv 3) de_int) (de_ix (dv 6) (dv 8)))) (dv 1))))))
    (dss_one (ds_set (i := 1) sc_determinant.nd rfl (by first | exact .inl rfl | exact .inr rfl) (de_ix (dv 6) de_int)))))))))
    (dss_one (ds_ret (de_callB call_abs cd_abs (by rfl) (T.free 3) boot_abs (da_cons (dv 1) da_nil)))))))
end
end K80
/-! K80D3 -/
namespace K80
open PySem PySem.Spec PyProof.Rows L2 L3
section
variable {Pg : Program} {w : World} {K : PySem.W.Frag} {mg : Str → Option Value} {base : Heap}
theorem sc_is_basis : FnScope N_is_basis p_is_basis d_is_basis.scope := ⟨rfl, rfl, rfl, by decide +kernel, rfl, by decide +kernel, by decide +kernel⟩
theorem der_is_basis (T : Tp facts defs exOk K mg) (F_determinant : GDef Pg w K mg base k_determinant (He.fAd K d_determinant.at_) p_determinant (sp_determinant K)) : ∀ (cdv : Value) (A : Around) (outer : List PySem.Env) (s : Shared) (H : Hp) (E : XK), Room 1 (A.deeper (envOfC d_is_basis.qual d_is_basis.scope s.heap.objs.size (He.fAd K d_is_basis.at_) cdv)) →
    DSs (cxOf CX0 Pg w K mg base N_is_basis d_is_basis.qual d_is_basis.scope (He.fAd K d_is_basis.at_) cdv A outer s H E).nox d_is_basis.body (t_is_basis K) := fun cdv A outer s H E hr =>
  (dss_cons (ds_if (PW.pt (dw_or (dt_cmp op_ne od_ne (de_callB call_lenAll cd_len (by rfl) (T.free 2) boot_len (da_cons (dv 1) da_nil)) (dv 0) (by first | rfl | exact nobehind _ (by decide) (by decide))) (dw_or1 (dt_val (de_callB (cr_any rfl) cd_any (by rfl) (T.free 28) boot_any (da_cons (de_lc (own := [(("row" : Str), 2)]) rfl sc_is_basis.nd (di_seq (dv 1)) (blkOk_by (by first | rfl | decide +kernel)) (fun _ _ _ _ _ => (dg_name (i := 2) sc_is_basis.nd rfl (by first | exact .inl rfl | exact .inr rfl))) (fun _ _ _ _ _ => dts_nil) (fun _ _ _ _ _ => (de_cmp op_ne od_ne (de_callB call_lenAll cd_len (by rfl) (T.free 2) boot_len (da_cons (dv 2) da_nil)) (dv 0) (by first | rfl | exact nobehind _ (by decide) (by decide))))) da_nil)))))) (dss_one (ds_ret de_bl)) dss_nil)
    (dss_one (ds_ret (de_cmp op_eq od_eq (de_callG F_determinant (hr.mono (by decide)) (T.glo 62) (da_cons (dv 1) da_nil)) de_int (by first | rfl | exact nobehind _ (by decide) (by decide))))))
theorem sc_check_sides : FnScope N_check_sides p_check_sides d_check_sides.scope := ⟨rfl, rfl, rfl, by decide +kernel, rfl, by decide +kernel, by decide +kernel⟩
theorem der_check_sides (T : Tp facts defs exOk K mg)  : ∀ (cdv : Value) (A : Around) (outer : List PySem.Env) (s : Shared) (H : Hp) (E : XK), Room 0 (A.deeper (envOfC d_check_sides.qual d_check_sides.scope s.heap.objs.size (He.fAd K d_check_sides.at_) cdv)) →
    DSs (cxOf CX0 Pg w K mg base N_check_sides d_check_sides.qual d_check_sides.scope (He.fAd K d_check_sides.at_) cdv A outer s H E).nox d_check_sides.body (t_check_sides K) := fun cdv A outer s H E hr =>
  (dss_cons (ds_if (dt_cmp op_ne od_ne (de_callB call_lenAll cd_len (by rfl) (T.free 2) boot_len (da_cons (dv 1) da_nil)) (dv 0) (by first | rfl | exact nobehind _ (by decide) (by decide))) (dss_one ds_never) dss_nil)
    (dss_one (ds_for PassesOwn.never rfl (di_enum (by rfl) (T.free 26) (da_cons (dv 1) da_nil)) (dg_tup rfl (dgs_cons (dg_name (i := 3) sc_check_sides.nd rfl (by first | exact .inl rfl | exact .inr rfl)) (dgs_cons (dg_name (i := 4) sc_check_sides.nd rfl (by first | exact .inl rfl | exact .inr rfl)) dgs_nil))) (dss_one (ds_if (dt_cmp op_lt od_lt (dv 4) (dv 2) (by first | rfl | exact nobehind _ (by decide) (by decide))) (dss_one ds_never) dss_nil)))))
theorem sc_unit_rows : FnScope N_unit_rows p_unit_rows d_unit_rows.scope := ⟨rfl, rfl, rfl, by decide +kernel, rfl, by decide +kernel, by decide +kernel⟩
theorem der_unit_rows (T : Tp facts defs exOk K mg)  : ∀ (cdv : Value) (A : Around) (outer : List PySem.Env) (s : Shared) (H : Hp) (E : XK), Room 0 (A.deeper (envOfC d_unit_rows.qual d_unit_rows.scope s.heap.objs.size (He.fAd K d_unit_rows.at_) cdv)) →
    DSs (cxOf CX0 Pg w K mg base N_unit_rows d_unit_rows.qual d_unit_rows.scope (He.fAd K d_unit_rows.at_) cdv A outer s H E).nox d_unit_rows.body (t_unit_rows K) := fun cdv A outer s H E hr =>
  (dss_one (ds_ret (de_lc (own := [(("lead" : Str), 2)]) rfl sc_unit_rows.nd (di_range1 (by rfl) (T.free 6) (da_cons (dv 0) da_nil)) (blkOk_by (by first | rfl | decide +kernel)) (fun _ _ _ _ _ => (dg_name (i := 2) sc_unit_rows.nd rfl (by first | exact .inl rfl | exact .inr rfl))) (fun _ _ _ _ _ => dts_nil) (fun _ _ _ _ _ => (de_callTy call_tuple_of cd_tuple (by rfl) (T.free 10) boot_tuple (da_cons (de_lc (own := [(("at" : Str), 1)]) rfl sc_unit_rows.nd (di_range1 (by rfl) (T.free 6) (da_cons (dv 0) da_nil)) (blkOk_by (by first | rfl | decide +kernel)) (fun _ _ _ _ _ => (dg_name (i := 1) sc_unit_rows.nd rfl (by first | exact .inl rfl | exact .inr rfl))) (fun _ _ _ _ _ => dts_nil) (fun _ _ _ _ _ => (de_if (dt_cmp op_eq od_eq (dv 1) (dv 2) (by first | rfl | exact nobehind _ (by decide) (by decide))) de_int de_int))) da_nil))))))
theorem sc_moved : FnScope N_moved p_moved d_moved.scope := ⟨rfl, rfl, rfl, by decide +kernel, rfl, by decide +kernel, by decide +kernel⟩
theorem der_moved (T : Tp facts defs exOk K mg)  : ∀ (cdv : Value) (A : Around) (outer : List PySem.Env) (s : Shared) (H : Hp) (E : XK), Room 0 (A.deeper (envOfC d_moved.qual d_moved.scope s.heap.objs.size (He.fAd K d_moved.at_) cdv)) →
    DSs (cxOf CX0 Pg w K mg base N_moved d_moved.qual d_moved.scope (He.fAd K d_moved.at_) cdv A outer s H E).nox d_moved.body (t_moved K) := fun cdv A outer s H E hr =>
  (dss_one (ds_ret (de_callTy call_tuple_of cd_tuple (by rfl) (T.free 10) boot_tuple (da_cons (de_lc (own := [(("item" : Str), 3), (("more" : Str), 4)]) rfl sc_moved.nd (di_zip (by rfl) (T.free 11) (da_cons (dv 0) (da_cons (dv 1) da_nil))) (blkOk_by (by first | rfl | decide +kernel)) (fun _ _ _ _ _ => (dg_tup rfl (dgs_cons (dg_name (i := 3) sc_moved.nd rfl (by first | exact .inl rfl | exact .inr rfl)) (dgs_cons (dg_name (i := 4) sc_moved.nd rfl (by first | exact .inl rfl | exact .inr rfl)) dgs_nil)))) (fun _ _ _ _ _ => dts_nil) (fun _ _ _ _ _ => (de_op op_plus od_plus (dv 3) (de_op op_mulX od_mulX (dv 2) (dv 4))))) da_nil))))
theorem sc_bring_least : FnScope N_bring_least p_bring_least d_bring_least.scope := ⟨rfl, rfl, rfl, by decide +kernel, rfl, by decide +kernel, by decide +kernel⟩
theorem der_bring_least (T : Tp facts defs exOk K mg)  : ∀ (cdv : Value) (A : Around) (outer : List PySem.Env) (s : Shared) (H : Hp) (E : XK), Room 0 (A.deeper (envOfC d_bring_least.qual d_bring_least.scope s.heap.objs.size (He.fAd K d_bring_least.at_) cdv)) →
    DSs (cxOf CX0 Pg w K mg base N_bring_least d_bring_least.qual d_bring_least.scope (He.fAd K d_bring_least.at_) cdv A outer s H E).nox d_bring_least.body (t_bring_least K) := fun cdv A outer s H E hr =>
  (dss_cons (ds_setLc (i := 2)  (own := [(("at" : Str), 3)]) rfl sc_bring_least.nd rfl rfl (by rfl) (di_range2 (by rfl) (T.free 6) (da_cons (dv 1) (da_cons (de_callB call_lenAll cd_len (by rfl) (T.free 2) boot_len (da_cons (dv 0) da_nil)) da_nil))) (blkOk_by (by first | rfl | decide +kernel)) (fun _ _ _ _ _ => (dg_name (i := 3) sc_bring_least.nd rfl (by first | exact .inl rfl | exact .inr rfl))) (fun _ _ _ _ _ => (dts_one (dt_cmp op_ne od_ne (de_ix (de_ix (dv 0) (dv 3)) (dv 1)) de_int (by first | rfl | exact nobehind _ (by decide) (by decide))))) (fun _ _ _ _ _ => (de_tup (da_cons (de_callB call_abs cd_abs (by rfl) (T.free 3) boot_abs (da_cons (de_ix (de_ix (dv 0) (dv 3)) (dv 1)) da_nil)) (da_cons (dv 3) da_nil)))))
    (dss_cons (ds_set (i := 4) sc_bring_least.nd rfl (by first | exact .inl rfl | exact .inr rfl) (de_ix (de_callB (cr_minD rfl (by first | exact hr.units | exact uni1 hr | exact uni0 hr)) cd_minD (by rfl) (T.free 5) boot_min (da_cons (dv 2) da_nil)) de_int))
    (dss_cons (ds_set (i := 5) sc_bring_least.nd rfl (by first | exact .inl rfl | exact .inr rfl) (de_ix (dv 0) (dv 1)))
    (dss_cons (ds_setI (dv 0) (dv 1) (de_ix (dv 0) (dv 4)))
    (dss_one (ds_setI (dv 0) (dv 4) (dv 5)))))))
theorem sc_settle : FnScope N_settle p_settle d_settle.scope := ⟨rfl, rfl, rfl, by decide +kernel, rfl, by decide +kernel, by decide +kernel⟩
theorem der_settle (T : Tp facts defs exOk K mg) (F_moved : GDef Pg w K mg base k_moved (He.fAd K d_moved.at_) p_moved (sp_moved K)) (F_bring_least : GDef Pg w K mg base k_bring_least (He.fAd K d_bring_least.at_) p_bring_least (sp_bring_least K)) : ∀ (cdv : Value) (A : Around) (outer : List PySem.Env) (s : Shared) (H : Hp) (E : XK), Room 1 (A.deeper (envOfC d_settle.qual d_settle.scope s.heap.objs.size (He.fAd K d_settle.at_) cdv)) →
    DSs (cxOf CX0 Pg w K mg base N_settle d_settle.qual d_settle.scope (He.fAd K d_settle.at_) cdv A outer s H E).nox d_settle.body (t_settle K) := fun cdv A outer s H E hr =>
  (dss_cons (ds_expr (de_callG F_bring_least (hr.mono (by decide)) (T.glo 64) (da_cons (dv 0) (da_cons (dv 1) da_nil))))
    (dss_cons (ds_while PassesOwn.never (dt_tru (de_lc (own := [(("row" : Str), 2)]) rfl sc_settle.nd (di_seq (de_slice (dv 0) (do_some (de_op op_plus od_plus (dv 1) de_int)) do_none)) (blkOk_by (by first | rfl | decide +kernel)) (fun _ _ _ _ _ => (dg_name (i := 2) sc_settle.nd rfl (by first | exact .inl rfl | exact .inr rfl))) (fun _ _ _ _ _ => (dts_one (dt_cmp op_ne od_ne (de_ix (dv 2) (dv 1)) de_int (by first | rfl | exact nobehind _ (by decide) (by decide))))) (fun _ _ _ _ _ => (dv 2)))) (dss_cons (ds_for PassesOwn.never rfl (di_range2 (by rfl) (T.free 6) (da_cons (de_op op_plus od_plus (dv 1) de_int) (da_cons (de_callB call_lenAll cd_len (by rfl) (T.free 2) boot_len (da_cons (dv 0) da_nil)) da_nil))) (dg_name (i := 3) sc_settle.nd rfl (by first | exact .inl rfl | exact .inr rfl)) (dss_one (ds_setI (dv 0) (dv 3) (de_callG F_moved (hr.mono (by decide)) (T.glo 63) (da_cons (de_ix (dv 0) (dv 3)) (da_cons (de_ix (dv 0) (dv 1)) (da_cons (de_un un_neg ud_neg (de_op op_fdivX od_divX (de_ix (de_ix (dv 0) (dv 3)) (dv 1)) (de_ix (de_ix (dv 0) (dv 1)) (dv 1)))) da_nil)))))))
    (dss_one (ds_expr (de_callG F_bring_least (hr.mono (by decide)) (T.glo 64) (da_cons (dv 0) (da_cons (dv 1) da_nil)))))))
    (dss_cons (ds_if (dt_cmp op_lt od_lt (de_ix (de_ix (dv 0) (dv 1)) (dv 1)) de_int (by first | rfl | exact nobehind _ (by decide) (by decide))) (dss_one (ds_setI (dv 0) (dv 1) (de_callTy call_tuple_of cd_tuple (by rfl) (T.free 10) boot_tuple (da_cons (de_lc (own := [(("item" : Str), 4)]) rfl sc_settle.nd (di_seq (de_ix (dv 0) (dv 1))) (blkOk_by (by first | rfl | decide +kernel)) (fun _ _ _ _ _ => (dg_name (i := 4) sc_settle.nd rfl (by first | exact .inl rfl | exact .inr rfl))) (fun _ _ _ _ _ => dts_nil) (fun _ _ _ _ _ => (de_un un_neg ud_neg (dv 4)))) da_nil)))) dss_nil)
    (dss_one (ds_for PassesOwn.never rfl (di_range1 (by rfl) (T.free 6) (da_cons (dv 1) da_nil)) (dg_name (i := 3) sc_settle.nd rfl (by first | exact .inl rfl | exact .inr rfl)) (dss_one (ds_setI (dv 0) (dv 3) (de_callG F_moved (hr.mono (by decide)) (T.glo 63) (da_cons (de_ix (dv 0) (dv 3)) (da_cons (de_ix (dv 0) (dv 1)) (da_cons (de_un un_neg ud_neg (de_ix (de_ix (dv 0) (dv 3)) (dv 1))) da_nil)))))))))))
theorem sc_dual_rows : FnScope N_dual_rows p_dual_rows d_dual_rows.scope := ⟨rfl, rfl, rfl, by decide +kernel, rfl, by decide +kernel, by decide +kernel⟩
theorem der_dual_rows (T : Tp facts defs exOk K mg) (F_settle : GDef Pg w K mg base k_settle (He.fAd K d_settle.at_) p_settle (sp_settle K)) (F_unit_rows : GDef Pg w K mg base k_unit_rows (He.fAd K d_unit_rows.at_) p_unit_rows (sp_unit_rows K)) : ∀ (cdv : Value) (A : Around) (outer : List PySem.Env) (s : Shared) (H : Hp) (E : XK), Room 2 (A.deeper (envOfC d_dual_rows.qual d_dual_rows.scope s.heap.objs.size (He.fAd K d_dual_rows.at_) cdv)) →
    DSs (cxOf CX0 Pg w K mg base N_dual_rows d_dual_rows.qual d_dual_rows.scope (He.fAd K d_dual_rows.at_) cdv A outer s H E).nox d_dual_rows.body (t_dual_rows K) := fun cdv A outer s H E hr =>
  (dss_cons (ds_set (i := 1) sc_dual_rows.nd rfl (by first | exact .inl rfl | exact .inr rfl) (de_callB call_lenAll cd_len (by rfl) (T.free 2) boot_len (da_cons (dv 0) da_nil)))
    (dss_cons (ds_set (i := 2) sc_dual_rows.nd rfl (by first | exact .inl rfl | exact .inr rfl) (de_lcM (own := [(("at" : Str), 3), (("unit" : Str), 4)]) rfl sc_dual_rows.nd (di_enum (by rfl) (T.free 26) (da_cons (de_callG F_unit_rows (hr.mono (by decide)) (T.glo 66) (da_cons (dv 1) da_nil)) da_nil)) (blkOk_by (by first | rfl | decide +kernel)) (fun _ _ _ _ _ => (dg_tup rfl (dgs_cons (dg_name (i := 3) sc_dual_rows.nd rfl (by first | exact .inl rfl | exact .inr rfl)) (dgs_cons (dg_name (i := 4) sc_dual_rows.nd rfl (by first | exact .inl rfl | exact .inr rfl)) dgs_nil)))) (fun _ _ _ _ _ => dts_nil) (fun _ _ _ _ _ => (de_op op_plus od_plus (de_ix (dv 0) (dv 3)) (dv 4)))))
    (dss_cons (ds_for PassesOwn.never rfl (di_range1 (by rfl) (T.free 6) (da_cons (dv 1) da_nil)) (dg_name (i := 5) sc_dual_rows.nd rfl (by first | exact .inl rfl | exact .inr rfl)) (dss_one (ds_expr (de_callG F_settle (hr.mono (by decide)) (T.glo 65) (da_cons (dv 2) (da_cons (dv 5) da_nil))))))
    (dss_one (ds_ret (de_lc (own := [(("at" : Str), 3)]) rfl sc_dual_rows.nd (di_range1 (by rfl) (T.free 6) (da_cons (dv 1) da_nil)) (blkOk_by (by first | rfl | decide +kernel)) (fun _ _ _ _ _ => (dg_name (i := 3) sc_dual_rows.nd rfl (by first | exact .inl rfl | exact .inr rfl))) (fun _ _ _ _ _ => dts_nil) (fun _ _ _ _ _ => (de_callTy call_tuple_of cd_tuple (by rfl) (T.free 10) boot_tuple (da_cons (de_lc (own := [(("row" : Str), 6)]) rfl sc_dual_rows.nd (di_seq (dv 2)) (blkOk_by (by first | rfl | decide +kernel)) (fun _ _ _ _ _ => (dg_name (i := 6) sc_dual_rows.nd rfl (by first | exact .inl rfl | exact .inr rfl))) (fun _ _ _ _ _ => dts_nil) (fun _ _ _ _ _ => (de_ix (dv 6) (de_op op_plus od_plus (dv 1) (dv 3))))) da_nil)))))))))
theorem sc_Block_init : FnScope N_Block_init p_Block_init d_Block_init.scope := ⟨rfl, rfl, rfl, by decide +kernel, rfl, by decide +kernel, by decide +kernel⟩
theorem der_Block_init (T : Tp facts defs exOk K mg) (F_dual_rows : GDef Pg w K mg base k_dual_rows (He.fAd K d_dual_rows.at_) p_dual_rows (sp_dual_rows K)) (F_check_sides : GDef Pg w K mg base k_check_sides (He.fAd K d_check_sides.at_) p_check_sides (sp_check_sides K)) (F_is_basis : GDef Pg w K mg base k_is_basis (He.fAd K d_is_basis.at_) p_is_basis (sp_is_basis K)) : ∀ (cdv : Value) (A : Around) (outer : List PySem.Env) (s : Shared) (H : Hp) (E : XK), Room 3 (A.deeper (envOfC d_Block_init.qual d_Block_init.scope s.heap.objs.size (He.fAd K d_Block_init.at_) cdv)) →
    DSs (cxOf CX0 Pg w K mg base N_Block_init d_Block_init.qual d_Block_init.scope (He.fAd K d_Block_init.at_) cdv A outer s H E).nox d_Block_init.body (t_Block_init K) := fun cdv A outer s H E hr =>
  (dss_cons (ds_setLc (i := 4)  (own := [(("row" : Str), 5)]) rfl sc_Block_init.nd rfl rfl (by rfl) (di_seq (dv 2)) (blkOk_by (by first | rfl | decide +kernel)) (fun _ _ _ _ _ => (dg_name (i := 5) sc_Block_init.nd rfl (by first | exact .inl rfl | exact .inr rfl))) (fun _ _ _ _ _ => dts_nil) (fun _ _ _ _ _ => (de_callTy call_tuple_of cd_tuple (by rfl) (T.free 10) boot_tuple (da_cons (dv 5) da_nil))))
    (dss_cons (ds_for PassesOwn.never rfl (di_enum (by rfl) (T.free 26) (da_cons (dv 4) da_nil)) (dg_tup rfl (dgs_cons (dg_name (i := 6) sc_Block_init.nd rfl (by first | exact .inl rfl | exact .inr rfl)) (dgs_cons (dg_name (i := 5) sc_Block_init.nd rfl (by first | exact .inl rfl | exact .inr rfl)) dgs_nil))) (dss_one (ds_if (dt_cmp op_ne od_ne (de_callB call_lenAll cd_len (by rfl) (T.free 2) boot_len (da_cons (dv 5) da_nil)) (de_fld (dv 1) (T.cls 34) (T.noat 37)) (by first | rfl | exact nobehind _ (by decide) (by decide))) (dss_one ds_never) dss_nil)))
    (dss_cons (ds_if (dt_not (dt_tru (de_callG F_is_basis (hr.mono (by decide)) (T.glo 75) (da_cons (de_fld (dv 1) (T.cls 34) (T.noat 37)) (da_cons (dv 4) da_nil))))) (dss_one ds_never) dss_nil)
    (dss_cons (ds_expr (de_callG F_check_sides (hr.mono (by decide)) (T.glo 74) (da_cons (de_fld (dv 1) (T.cls 34) (T.noat 37)) (da_cons (dv 3) (da_cons de_int da_nil)))))
    (dss_cons (ds_fld (dv 0) (dv 1) (T.cls 68) (T.noat 73))
    (dss_cons (ds_fld (dv 0) de_int (T.cls 68) (T.noat 72))
    (dss_cons (ds_for PassesOwn.never rfl (di_seq (dv 3)) (dg_name (i := 7) sc_Block_init.nd rfl (by first | exact .inl rfl | exact .inr rfl)) (dss_one (ds_fld (dv 0) (de_op op_mulX od_mulX (de_fld (dv 0) (T.cls 68) (T.noat 72)) (dv 7)) (T.cls 68) (T.noat 72))))
    (dss_cons (ds_fld (dv 0) (dv 4) (T.cls 68) (T.noat 71))
    (dss_cons (ds_fld (dv 0) (de_callTy call_list_of cd_list (by rfl) (T.free 0) boot_list (da_cons (dv 3) da_nil)) (T.cls 68) (T.noat 70))
    (dss_one (ds_fld (dv 0) (de_callG F_dual_rows (hr.mono (by decide)) (T.glo 67) (da_cons (dv 4) da_nil)) (T.cls 68) (T.noat 69))))))))))))
theorem sc_Block_sides : FnScope N_Block_sides p_Block_sides d_Block_sides.scope := ⟨rfl, rfl, rfl, by decide +kernel, rfl, by decide +kernel, by decide +kernel⟩
theorem der_Block_sides (T : Tp facts defs exOk K mg)  : ∀ (cdv : Value) (A : Around) (outer : List PySem.Env) (s : Shared) (H : Hp) (E : XK), Room 0 (A.deeper (envOfC d_Block_sides.qual d_Block_sides.scope s.heap.objs.size (He.fAd K d_Block_sides.at_) cdv)) →
    DSs (cxOf CX0 Pg w K mg base N_Block_sides d_Block_sides.qual d_Block_sides.scope (He.fAd K d_Block_sides.at_) cdv A outer s H E).nox d_Block_sides.body (t_Block_sides K) := fun cdv A outer s H E hr =>
  (dss_one (ds_ret (de_callTy call_list_of cd_list (by rfl) (T.free 0) boot_list (da_cons (de_fld (dv 0) (T.cls 68) (T.noat 70)) da_nil))))
theorem sc_dot : FnScope N_dot p_dot d_dot.scope := ⟨rfl, rfl, rfl, by decide +kernel, rfl, by decide +kernel, by decide +kernel⟩
theorem der_dot (T : Tp facts defs exOk K mg)  : ∀ (cdv : Value) (A : Around) (outer : List PySem.Env) (s : Shared) (H : Hp) (E : XK), Room 0 (A.deeper (envOfC d_dot.qual d_dot.scope s.heap.objs.size (He.fAd K d_dot.at_) cdv)) →
    DSs (cxOf CX0 Pg w K mg base N_dot d_dot.qual d_dot.scope (He.fAd K d_dot.at_) cdv A outer s H E).nox d_dot.body (t_dot K) := fun cdv A outer s H E hr =>
  (dss_one (ds_ret (de_callB (cr_sum rfl) cd_sum (by rfl) (T.free 48) boot_sum (da_cons (de_lc (own := [(("left" : Str), 2), (("right" : Str), 3)]) rfl sc_dot.nd (di_zip (by rfl) (T.free 11) (da_cons (dv 0) (da_cons (dv 1) da_nil))) (blkOk_by (by first | rfl | decide +kernel)) (fun _ _ _ _ _ => (dg_tup rfl (dgs_cons (dg_name (i := 2) sc_dot.nd rfl (by first | exact .inl rfl | exact .inr rfl)) (dgs_cons (dg_name (i := 3) sc_dot.nd rfl (by first | exact .inl rfl | exact .inr rfl)) dgs_nil)))) (fun _ _ _ _ _ => dts_nil) (fun _ _ _ _ _ => (de_op op_mulX od_mulX (dv 2) (dv 3)))) da_nil))))
theorem sc_Block_place : FnScope N_Block_place p_Block_place d_Block_place.scope := ⟨rfl, rfl, rfl, by decide +kernel, rfl, by decide +kernel, by decide +kernel⟩
theorem der_Block_place (T : Tp facts defs exOk K mg) (F_dot : GDef Pg w K mg base k_dot (He.fAd K d_dot.at_) p_dot (sp_dot K)) : ∀ (cdv : Value) (A : Around) (outer : List PySem.Env) (s : Shared) (H : Hp) (E : XK), Room 1 (A.deeper (envOfC d_Block_place.qual d_Block_place.scope s.heap.objs.size (He.fAd K d_Block_place.at_) cdv)) →
    DSs (cxOf CX0 Pg w K mg base N_Block_place d_Block_place.qual d_Block_place.scope (He.fAd K d_Block_place.at_) cdv A outer s H E).nox d_Block_place.body (t_Block_place K) := fun cdv A outer s H E hr =>
  (dss_cons (ds_if (dt_cmp op_ne od_ne (de_callB call_lenAll cd_len (by rfl) (T.free 2) boot_len (da_cons (dv 1) da_nil)) (de_fld (de_fld (dv 0) (T.cls 68) (T.noat 73)) (T.cls 34) (T.noat 37)) (by first | rfl | exact nobehind _ (by decide) (by decide))) (dss_one ds_never) dss_nil)
    (dss_one (ds_ret (de_callTy call_tuple_of cd_tuple (by rfl) (T.free 10) boot_tuple (da_cons (de_lc (own := [(("dual" : Str), 2)]) rfl sc_Block_place.nd (di_seq (de_fld (dv 0) (T.cls 68) (T.noat 69))) (blkOk_by (by first | rfl | decide +kernel)) (fun _ _ _ _ _ => (dg_name (i := 2) sc_Block_place.nd rfl (by first | exact .inl rfl | exact .inr rfl))) (fun _ _ _ _ _ => dts_nil) (fun _ _ _ _ _ => (de_callG F_dot (hr.mono (by decide)) (T.glo 76) (da_cons (dv 2) (da_cons (dv 1) da_nil))))) da_nil)))))
theorem sc_Block_home : FnScope N_Block_home p_Block_home d_Block_home.scope := ⟨rfl, rfl, rfl, by decide +kernel, rfl, by decide +kernel, by decide +kernel⟩
theorem der_Block_home (T : Tp facts defs exOk K mg) (F_Block_place : GDef Pg w K mg base k_Block_place (He.fAd K d_Block_place.at_) p_Block_place (sp_Block_place K)) : ∀ (cdv : Value) (A : Around) (outer : List PySem.Env) (s : Shared) (H : Hp) (E : XK), Room 2 (A.deeper (envOfC d_Block_home.qual d_Block_home.scope s.heap.objs.size (He.fAd K d_Block_home.at_) cdv)) →
    DSs (cxOf CX0 Pg w K mg base N_Block_home d_Block_home.qual d_Block_home.scope (He.fAd K d_Block_home.at_) cdv A outer s H E).nox d_Block_home.body (t_Block_home K) := fun cdv A outer s H E hr =>
  (dss_one (ds_ret (de_callTy call_tuple_of cd_tuple (by rfl) (T.free 10) boot_tuple (da_cons (de_lc (own := [(("place" : Str), 2), (("side" : Str), 3)]) rfl sc_Block_home.nd (di_zip (by rfl) (T.free 11) (da_cons (de_methG F_Block_place (hr.mono (by decide)) (T.cls 68) (T.meth 77) (dv 0) (da_cons (dv 1) da_nil)) (da_cons (de_fld (dv 0) (T.cls 68) (T.noat 70)) da_nil))) (blkOk_by (by first | rfl | decide +kernel)) (fun _ _ _ _ _ => (dg_tup rfl (dgs_cons (dg_name (i := 2) sc_Block_home.nd rfl (by first | exact .inl rfl | exact .inr rfl)) (dgs_cons (dg_name (i := 3) sc_Block_home.nd rfl (by first | exact .inl rfl | exact .inr rfl)) dgs_nil)))) (fun _ _ _ _ _ => dts_nil) (fun _ _ _ _ _ => (de_op op_fdivX od_divX (dv 2) (dv 3)))) da_nil))))
theorem sc_parts : FnScope N_parts p_parts d_parts.scope := ⟨rfl, rfl, rfl, by decide +kernel, rfl, by decide +kernel, by decide +kernel⟩
theorem der_parts (T : Tp facts defs exOk K mg) (F_Lot_points : GDef Pg w K mg base k_Lot_points (He.fAd K d_Lot_points.at_) p_Lot_points (sp_Lot_points K)) (F_Block_place : GDef Pg w K mg base k_Block_place (He.fAd K d_Block_place.at_) p_Block_place (sp_Block_place K)) (F_Block_sides : GDef Pg w K mg base k_Block_sides (He.fAd K d_Block_sides.at_) p_Block_sides (sp_Block_sides K)) (F_Nest_eq : GDef Pg w K mg base k_Nest_eq (He.fAd K d_Nest_eq.at_) p_Nest_eq (sp_Nest_eq K)) : ∀ (cdv : Value) (A : Around) (outer : List PySem.Env) (s : Shared) (H : Hp) (E : XK), Room 2 (A.deeper (envOfC d_parts.qual d_parts.scope s.heap.objs.size (He.fAd K d_parts.at_) cdv)) →
    DSs (cxOf CX0 Pg w K mg base N_parts d_parts.qual d_parts.scope (He.fAd K d_parts.at_) cdv A outer s H E).nox d_parts.body (t_parts K) := fun cdv A outer s H E hr =>
  (dss_cons (ds_if (dt_not (dt_eqOwn F_Nest_eq (hr.mono (by decide)) (T.meth 58) (de_fld (dv 0) (T.cls 53) (T.noat 57)) (de_fld (dv 1) (T.cls 68) (T.noat 73)))) (dss_one ds_never) dss_nil)
    (dss_cons (ds_set (i := 2) sc_parts.nd rfl (by first | exact .inl rfl | exact .inr rfl) (de_meth0G F_Block_sides (hr.mono (by decide)) (T.cls 68) (T.meth 79) (dv 1)))
    (dss_cons (ds_set (i := 3) sc_parts.nd rfl (by first | exact .inl rfl | exact .inr rfl) (de_lstM da_nil))
    (dss_cons (ds_for PassesOwn.never rfl (di_seq (de_meth0G F_Lot_points (hr.mono (by decide)) (T.cls 53) (T.meth 78) (dv 0))) (dg_name (i := 4) sc_parts.nd rfl (by first | exact .inl rfl | exact .inr rfl)) (dss_cons (ds_set (i := 5) sc_parts.nd rfl (by first | exact .inl rfl | exact .inr rfl) (de_methG F_Block_place (hr.mono (by decide)) (T.cls 68) (T.meth 77) (dv 1) (da_cons (dv 4) da_nil)))
    (dss_cons (ds_set (i := 6) sc_parts.nd rfl (by first | exact .inl rfl | exact .inr rfl) (de_callTy call_tuple_of cd_tuple (by rfl) (T.free 10) boot_tuple (da_cons (de_lc (own := [(("u" : Str), 7), (("side" : Str), 8)]) rfl sc_parts.nd (di_zip (by rfl) (T.free 11) (da_cons (dv 5) (da_cons (dv 2) da_nil))) (blkOk_by (by first | rfl | decide +kernel)) (fun _ _ _ _ _ => (dg_tup rfl (dgs_cons (dg_name (i := 7) sc_parts.nd rfl (by first | exact .inl rfl | exact .inr rfl)) (dgs_cons (dg_name (i := 8) sc_parts.nd rfl (by first | exact .inl rfl | exact .inr rfl)) dgs_nil)))) (fun _ _ _ _ _ => dts_nil) (fun _ _ _ _ _ => (de_op op_fdivX od_divX (dv 7) (dv 8)))) da_nil)))
    (dss_one (ds_expr (de_bm PySem.F.plainAttrs_list PySem.F.slot_list_append PySem.F.type_list_append mt_append md_append (dv 3) (da_cons (de_tup (da_cons (dv 6) (da_cons (dv 5) (da_cons (dv 4) da_nil)))) da_nil)))))))
    (dss_cons (ds_set (i := 9) sc_parts.nd rfl (by first | exact .inl rfl | exact .inr rfl) (de_lstM da_nil))
    (dss_cons (ds_for PassesOwn.never rfl (di_seq (de_callB (cr_sortD (by first | exact hr.units | exact uni1 hr | exact uni0 hr)) cd_sortD (by rfl) (T.free 44) boot_sorted (da_cons (dv 3) da_nil))) (dg_tup rfl (dgs_cons (dg_name (i := 6) sc_parts.nd rfl (by first | exact .inl rfl | exact .inr rfl)) (dgs_cons (dg_name (i := 10) sc_parts.nd rfl (by first | exact .inl rfl | exact .inr rfl)) (dgs_cons (dg_name (i := 4) sc_parts.nd rfl (by first | exact .inl rfl | exact .inr rfl)) dgs_nil)))) (dss_one (ds_if (PW.pt (dw_and (dt_tru (dv 9)) (dw_and1 (dt_cmp (op_eqD hr.units) od_eqD (de_ix (de_ix (dv 9) (de_un un_neg ud_neg de_int)) de_int) (dv 6) (by first | rfl | exact nobehind _ (by decide) (by decide)))))) (dss_one (ds_expr (de_bm PySem.F.plainAttrs_list PySem.F.slot_list_append PySem.F.type_list_append mt_append md_append (de_ix (de_ix (dv 9) (de_un un_neg ud_neg de_int)) de_int) (da_cons (dv 4) da_nil)))) (dss_one (ds_expr (de_bm PySem.F.plainAttrs_list PySem.F.slot_list_append PySem.F.type_list_append mt_append md_append (dv 9) (da_cons (de_tup (da_cons (dv 6) (da_cons (de_lstM (da_cons (dv 4) da_nil)) da_nil))) da_nil)))))))
    (dss_one (ds_ret (dv 9)))))))))
end
end K80
/-! K80D4 -/
namespace K80
open PySem PySem.Spec PyProof.Rows L2 L3
section
variable {Pg : Program} {w : World} {K : PySem.W.Frag} {mg : Str → Option Value} {base : Heap}
theorem sc__law_places_told : FnScope N__law_places_told p__law_places_told d__law_places_told.scope := ⟨rfl, rfl, rfl, by decide +kernel, rfl, by decide +kernel, by decide +kernel⟩
theorem der__law_places_told (T : Tp facts defs exOk K mg) (F__law_same : GDef Pg w K mg base k__law_same (He.fAd K d__law_same.at_) p__law_same (sp__law_same K)) (F__law_place : GDef Pg w K mg base k__law_place (He.fAd K d__law_place.at_) p__law_place (sp__law_place K)) (F_Block_place : GDef Pg w K mg base k_Block_place (He.fAd K d_Block_place.at_) p_Block_place (sp_Block_place K)) (F_Block_home : GDef Pg w K mg base k_Block_home (He.fAd K d_Block_home.at_) p_Block_home (sp_Block_home K)) : ∀ (cdv : Value) (A : Around) (outer : List PySem.Env) (s : Shared) (H : Hp) (E : XK), Room 7 (A.deeper (envOfC d__law_places_told.qual d__law_places_told.scope s.heap.objs.size (He.fAd K d__law_places_told.at_) cdv)) →
    DSs (cxOf CX0 Pg w K mg base N__law_places_told d__law_places_told.qual d__law_places_told.scope (He.fAd K d__law_places_told.at_) cdv A outer s H E).nox d__law_places_told.body (t__law_places_told K) := fun cdv A outer s H E hr =>
  (dss_cons (ds_for PassesOwn.never rfl (di_seq (dv 1)) (dg_tup rfl (dgs_cons (dg_name (i := 3) sc__law_places_told.nd rfl (by first | exact .inl rfl | exact .inr rfl)) (dgs_cons (dg_name (i := 4) sc__law_places_told.nd rfl (by first | exact .inl rfl | exact .inr rfl)) dgs_nil))) (dss_one (ds_for PassesOwn.never rfl (di_seq (dv 4)) (dg_name (i := 5) sc__law_places_told.nd rfl (by first | exact .inl rfl | exact .inr rfl)) (dss_one (ds_if (dt_not (dt_tru (de_callG F__law_same (hr.mono (by decide)) (T.glo 12) (da_cons (de_lst (da_cons (de_methG F_Block_home (hr.mono (by decide)) (T.cls 68) (T.meth 80) (dv 0) (da_cons (dv 5) da_nil)) (da_cons (de_methG F_Block_place (hr.mono (by decide)) (T.cls 68) (T.meth 77) (dv 0) (da_cons (dv 5) da_nil)) da_nil))) (da_cons (de_lst (da_cons (dv 3) (da_cons (de_callG F__law_place (hr.mono (by decide)) (T.glo 50) (da_cons (dv 2) (da_cons (dv 5) da_nil))) da_nil))) da_nil))))) (dss_one (ds_ret de_bl)) dss_nil)))))
    (dss_one (ds_ret de_bl)))
end
end K80
/-! K80DL -/
namespace K80
open PySem PySem.Spec PyProof.Rows L2 L3
section
variable {Pg : Program} {w : World} {K : PySem.W.Frag} {mg : Str → Option Value} {base : Heap}
abbrev N__law_refused : List Str := [("ask" : Str), ("e" : Str)]
theorem sc__law_refused : FnScope N__law_refused [("ask" : Str)] d__law_refused.scope := ⟨rfl, rfl, rfl, by decide +kernel, rfl, by decide +kernel, by decide +kernel⟩
theorem sc_law : FnScope N_law p_law d_law.scope := ⟨rfl, rfl, rfl, by decide +kernel, rfl, by decide +kernel, by decide +kernel⟩
theorem der_law (T : Tp facts defs exOk K mg) (F__law_same : GDef Pg w K mg base k__law_same (He.fAd K d__law_same.at_) p__law_same (sp__law_same K)) (F_parts : GDef Pg w K mg base k_parts (He.fAd K d_parts.at_) p_parts (sp_parts K)) (F__law_bag : GDef Pg w K mg base k__law_bag (He.fAd K d__law_bag.at_) p__law_bag (sp__law_bag K)) (F__law_of : GDef Pg w K mg base k__law_of (He.fAd K d__law_of.at_) p__law_of (sp__law_of K)) (F__law_nest : GDef Pg w K mg base k__law_nest (He.fAd K d__law_nest.at_) p__law_nest (sp__law_nest K)) (F__law_matrices : GDef Pg w K mg base k__law_matrices (He.fAd K d__law_matrices.at_) p__law_matrices (sp__law_matrices K)) (F__law_draw : GDef Pg w K mg base k__law_draw (He.fAd K d__law_draw.at_) p__law_draw (sp__law_draw K)) (F__law_basis : GDef Pg w K mg base k__law_basis (He.fAd K d__law_basis.at_) p__law_basis (sp__law_basis K)) (F__law_undone : GDef Pg w K mg base k__law_undone (He.fAd K d__law_undone.at_) p__law_undone (sp__law_undone K)) (F__law_points : GDef Pg w K mg base k__law_points (He.fAd K d__law_points.at_) p__law_points (sp__law_points K)) (F__law_parts : GDef Pg w K mg base k__law_parts (He.fAd K d__law_parts.at_) p__law_parts (sp__law_parts K)) (F__law_pick : GDef Pg w K mg base k__law_pick (He.fAd K d__law_pick.at_) p__law_pick (sp__law_pick K)) (F_Lot_init : GDef Pg w K mg base k_Lot_init (He.fAd K d_Lot_init.at_) p_Lot_init (sp_Lot_init K)) (F__law_copied : GDef Pg w K mg base k__law_copied (He.fAd K d__law_copied.at_) p__law_copied (sp__law_copied K)) (F_Block_init : GDef Pg w K mg base k_Block_init (He.fAd K d_Block_init.at_) p_Block_init (sp_Block_init K)) (F__law_places_told : GDef Pg w K mg base k__law_places_told (He.fAd K d__law_places_told.at_) p__law_places_told (sp__law_places_told K)) (F_Lot_sub : GDef Pg w K mg base k_Lot_sub (He.fAd K d_Lot_sub.at_) p_Lot_sub (sp_Lot_sub K)) (F_Lot_and : GDef Pg w K mg base k_Lot_and (He.fAd K d_Lot_and.at_) p_Lot_and (sp_Lot_and K)) (F__law_other : GDef Pg w K mg base k__law_other (He.fAd K d__law_other.at_) p__law_other (sp__law_other K)) (FK_parts : KDef Pg w K mg base k_parts (He.fAd K d_parts.at_) p_parts (p_parts.drop 1) (sp_parts K)) {fdp : FuncData} (Rp : FnOk Pg w K mg base (CX Pg w) k_parts (He.fAd K d_parts.at_) fdp p_parts (liftR K (aOth K) "code" "OtherNest" (rrParts K)) ∧ L2.Binds K fdp p_parts [])
    {c P : Addr} (TB : LamX.TabB base mg c P) : ∀ (A : Around) (outer : List PySem.Env) (s : Shared) (H : Hp) (E : XK), Room 8 (A.deeper (envOfC d_law.qual d_law.scope s.heap.objs.size (He.fAd K d_law.at_) (.ref c))) →
    PSs (cxOf CX0 Pg w K mg base N_law d_law.qual d_law.scope (He.fAd K d_law.at_) (.ref c) A outer s H E).nox d_law.body (t_law K P) := fun A outer s H E hr =>
  (mix_cons (ds_set (i := 1) sc_law.nd rfl (by first | exact .inl rfl | exact .inr rfl) (de_callG F__law_bag (hr.mono (by decide)) (T.glo 86) (da_cons (dv 0) da_nil)))
    (mix_cons (ds_set (i := 2) sc_law.nd rfl (by first | exact .inl rfl | exact .inr rfl) (de_callG F__law_of (hr.mono (by decide)) (T.glo 15) (da_cons (dv 1) (da_cons (de_lst (da_cons de_int (da_cons de_int (da_cons de_int (da_cons de_int (da_cons de_int (da_cons de_int da_nil))))))) da_nil))))
    (mix_cons (ds_set (i := 3) sc_law.nd rfl (by first | exact .inl rfl | exact .inr rfl) (de_callG F__law_nest (hr.mono (by decide)) (T.glo 87) (da_cons (dv 1) (da_cons (de_callG F__law_matrices (hr.mono (by decide)) (T.glo 88) (da_cons (dv 1) (da_cons (dv 2) (da_cons (de_callG F__law_of (hr.mono (by decide)) (T.glo 15) (da_cons (dv 1) (da_cons (de_lst (da_cons de_int (da_cons de_int (da_cons de_int (da_cons de_int da_nil))))) da_nil))) (da_cons (de_cmp op_eq od_eq (de_callG F__law_draw (hr.mono (by decide)) (T.glo 4) (da_cons (dv 1) (da_cons de_int da_nil))) de_int (by first | rfl | exact nobehind _ (by decide) (by decide))) da_nil))))) (da_cons (dv 2) da_nil)))))
    (mix_cons (ds_set (i := 4) sc_law.nd rfl (by first | exact .inl rfl | exact .inr rfl) (de_callG F__law_basis (hr.mono (by decide)) (T.glo 89) (da_cons (dv 1) (da_cons (dv 2) (da_cons (de_callG F__law_of (hr.mono (by decide)) (T.glo 15) (da_cons (dv 1) (da_cons (de_lst (da_cons de_int (da_cons de_int (da_cons de_int (da_cons de_int (da_cons de_int da_nil)))))) da_nil))) da_nil)))))
    (mix_cons (ds_set (i := 5) sc_law.nd rfl (by first | exact .inl rfl | exact .inr rfl) (de_callG F__law_undone (hr.mono (by decide)) (T.glo 90) (da_cons (dv 4) da_nil)))
    (mix_cons (ds_par (i := 6) (j := 7) rfl sc_law.nd rfl rfl (by decide) rfl rfl (da_cons (de_lc (own := [(("k" : Str), 8)]) rfl sc_law.nd (di_range1 (by rfl) (T.free 6) (da_cons (dv 2) da_nil)) (blkOk_by (by first | rfl | decide +kernel)) (fun _ _ _ _ _ => (dg_name (i := 8) sc_law.nd rfl (by first | exact .inl rfl | exact .inr rfl))) (fun _ _ _ _ _ => dts_nil) (fun _ _ _ _ _ => (de_callG F__law_of (hr.mono (by decide)) (T.glo 15) (da_cons (dv 1) (da_cons (de_lst (da_cons de_int (da_cons de_int (da_cons de_int (da_cons de_int (da_cons de_int da_nil)))))) da_nil))))) (da_cons (de_lc (own := [(("k" : Str), 8)]) rfl sc_law.nd (di_range1 (by rfl) (T.free 6) (da_cons (dv 2) da_nil)) (blkOk_by (by first | rfl | decide +kernel)) (fun _ _ _ _ _ => (dg_name (i := 8) sc_law.nd rfl (by first | exact .inl rfl | exact .inr rfl))) (fun _ _ _ _ _ => dts_nil) (fun _ _ _ _ _ => (de_callG F__law_of (hr.mono (by decide)) (T.glo 15) (da_cons (dv 1) (da_cons (de_lst (da_cons de_int (da_cons de_int (da_cons de_int (da_cons de_int da_nil))))) da_nil))))) da_nil)) (by rfl))
    (mix_cons (ds_set (i := 9) sc_law.nd rfl (by first | exact .inl rfl | exact .inr rfl) (de_callG F__law_points (hr.mono (by decide)) (T.glo 91) (da_cons (dv 1) (da_cons (dv 2) (da_cons (de_callG F__law_of (hr.mono (by decide)) (T.glo 15) (da_cons (dv 1) (da_cons (de_lst (da_cons de_int (da_cons de_int (da_cons de_int (da_cons de_int (da_cons de_int (da_cons de_int da_nil))))))) da_nil))) da_nil)))))
    (mix_cons (ds_par (i := 10) (j := 11) rfl sc_law.nd rfl rfl (by decide) rfl rfl (da_cons (de_callG F__law_parts (hr.mono (by decide)) (T.glo 92) (da_cons (dv 5) (da_cons (dv 6) (da_cons (dv 9) da_nil)))) (da_cons (de_callG F__law_parts (hr.mono (by decide)) (T.glo 92) (da_cons (dv 5) (da_cons (dv 7) (da_cons (dv 9) da_nil)))) da_nil)) (by rfl))
    (mix_cons (ds_set (i := 12) sc_law.nd rfl (by first | exact .inl rfl | exact .inr rfl) (de_callG F__law_pick (hr.mono (by decide)) (T.glo 93) (da_cons (dv 1) (da_cons (de_op op_plus od_plus (dv 9) (de_slice (dv 9) do_none (do_some de_int))) (da_cons (de_op op_plus od_plus (de_callB call_lenAll cd_len (by rfl) (T.free 2) boot_len (da_cons (dv 9) da_nil)) de_int) da_nil)))))
    (mix_cons (ds_set (i := 13) sc_law.nd rfl (by first | exact .inl rfl | exact .inr rfl) (de_frz (de_makeG F_Lot_init (T.mkr 60) (hr.mono (by decide)) (T.glo 59) (da_cons (de_callG F__law_copied (hr.mono (by decide)) (T.glo 94) (da_cons (dv 3) da_nil)) (da_cons (dv 12) da_nil)))))
    (mix_cons (ds_expr (de_bm0 PySem.F.plainAttrs_list PySem.F.slot_list_clear PySem.F.type_list_clear mt_clear md_clear (dv 12)))
    (mix_cons (ds_asg (de_tup (da_cons (de_frz (de_makeG F_Block_init (T.mkr 96) (hr.mono (by decide)) (T.glo 95) (da_cons (de_callG F__law_copied (hr.mono (by decide)) (T.glo 94) (da_cons (dv 3) da_nil)) (da_cons (de_callTy call_list_of cd_list (by rfl) (T.free 0) boot_list (da_cons (dv 4) da_nil)) (da_cons (de_callTy call_list_of cd_list (by rfl) (T.free 0) boot_list (da_cons (dv 6) da_nil)) da_nil))))) (da_cons (de_frz (de_makeG F_Block_init (T.mkr 96) (hr.mono (by decide)) (T.glo 95) (da_cons (de_callG F__law_copied (hr.mono (by decide)) (T.glo 94) (da_cons (dv 3) da_nil)) (da_cons (de_callTy call_list_of cd_list (by rfl) (T.free 0) boot_list (da_cons (dv 4) da_nil)) (da_cons (de_callTy call_list_of cd_list (by rfl) (T.free 0) boot_list (da_cons (dv 7) da_nil)) da_nil))))) da_nil))) (dg_tup rfl (dgs_cons (dg_name (i := 14) sc_law.nd rfl (by first | exact .inl rfl | exact .inr rfl)) (dgs_cons (dg_name (i := 15) sc_law.nd rfl (by first | exact .inl rfl | exact .inr rfl)) dgs_nil))))
    (mix_cons (ds_set (i := 16) sc_law.nd rfl (by first | exact .inl rfl | exact .inr rfl) (de_callG F_parts (hr.mono (by decide)) (T.glo 84) (da_cons (dv 13) (da_cons (dv 14) da_nil))))
    (mix_cons (ds_if (PW.pt (dw_or (dt_not (dt_tru (de_callG F__law_same (hr.mono (by decide)) (T.glo 12) (da_cons (dv 16) (da_cons (dv 10) da_nil))))) (dw_or (dt_not (dt_tru (de_callG F__law_same (hr.mono (by decide)) (T.glo 12) (da_cons (de_callG F_parts (hr.mono (by decide)) (T.glo 84) (da_cons (dv 13) (da_cons (dv 15) da_nil))) (da_cons (dv 11) da_nil))))) (dw_or1 (dt_not (dt_tru (de_callG F__law_places_told (hr.mono (by decide)) (T.glo 97) (da_cons (dv 14) (da_cons (dv 10) (da_cons (dv 5) da_nil)))))))))) (dss_one (ds_ret de_bl)) dss_nil)
    (mix_cons (ds_if (dt_tru (dv 16)) (dss_cons (ds_set (i := 17) sc_law.nd rfl (by first | exact .inl rfl | exact .inr rfl) (de_ix (de_ix (dv 16) (de_un un_neg ud_neg de_int)) de_int))
    (dss_one (ds_expr (de_bm PySem.F.plainAttrs_list PySem.F.slot_list_append PySem.F.type_list_append mt_append md_append (dv 17) (da_cons (de_ix (dv 17) de_int) da_nil))))) dss_nil)
    (mix_cons (ds_expr (de_bm PySem.F.plainAttrs_list PySem.F.slot_list_append PySem.F.type_list_append mt_append md_append (dv 16) (da_cons de_non da_nil)))
    (mix_cons (ds_if (PW.pt (dw_or (dt_not (dt_tru (de_callG F__law_same (hr.mono (by decide)) (T.glo 12) (da_cons (de_callG F_parts (hr.mono (by decide)) (T.glo 84) (da_cons (dv 13) (da_cons (dv 14) da_nil))) (da_cons (dv 10) da_nil))))) (dw_or1 (dt_not (dt_tru (de_callG F__law_same (hr.mono (by decide)) (T.glo 12) (da_cons (de_callK1 FK_parts (hr.mono (by decide)) (T.glo 84) (dv 13) (dv 15)) (da_cons (dv 11) da_nil)))))))) (dss_one (ds_ret de_bl)) dss_nil)
    (mix_cons (ds_set (i := 18) sc_law.nd rfl (by first | exact .inl rfl | exact .inr rfl) (de_callG F__law_pick (hr.mono (by decide)) (T.glo 93) (da_cons (dv 1) (da_cons (dv 9) (da_cons (de_callG F__law_draw (hr.mono (by decide)) (T.glo 4) (da_cons (dv 1) (da_cons (de_op op_plus od_plus (de_callB call_lenAll cd_len (by rfl) (T.free 2) boot_len (da_cons (dv 9) da_nil)) de_int) da_nil))) da_nil)))))
    (mix_cons (ds_thaw (i := 18) (ds_set (i := 19) sc_law.nd rfl (by first | exact .inl rfl | exact .inr rfl) (de_frz (de_makeG F_Lot_init (T.mkr 60) (hr.mono (by decide)) (T.glo 59) (da_cons (de_callG F__law_copied (hr.mono (by decide)) (T.glo 94) (da_cons (dv 3) da_nil)) (da_cons (dv 18) da_nil))))))
    (mix_cons (ds_if (dt_not (dt_tru (de_callG F__law_same (hr.mono (by decide)) (T.glo 12) (da_cons (de_callG F_parts (hr.mono (by decide)) (T.glo 84) (da_cons (de_subOwn F_Lot_sub (hr.mono (by decide)) (T.meth 98) (more_first T) (dv 13) (dv 19)) (da_cons (dv 14) da_nil))) (da_cons (de_callG F__law_parts (hr.mono (by decide)) (T.glo 92) (da_cons (dv 5) (da_cons (dv 6) (da_cons (de_lc (own := [(("point" : Str), 20)]) rfl sc_law.nd (di_seq (dv 9)) (blkOk_by (by first | rfl | decide +kernel)) (fun _ _ _ _ _ => (dg_name (i := 20) sc_law.nd rfl (by first | exact .inl rfl | exact .inr rfl))) (fun _ _ _ _ _ => (dts_one (dt_cmp (op_notInD (by first | exact uni65 hr | exact uni66 hr)) od_notInD (dv 20) (dv 18) (by first | rfl | exact nobehind _ (by decide) (by decide))))) (fun _ _ _ _ _ => (dv 20))) da_nil)))) da_nil))))) (dss_one (ds_ret de_bl)) dss_nil)
    (mix_cons (ds_if (PW.pt (dw_or (dt_not (dt_tru (de_callG F__law_same (hr.mono (by decide)) (T.glo 12) (da_cons (de_callG F_parts (hr.mono (by decide)) (T.glo 84) (da_cons (de_andOwn F_Lot_and (hr.mono (by decide)) (T.meth 99) (more_first T) (dv 13) (dv 19)) (da_cons (dv 15) da_nil))) (da_cons (de_callG F__law_parts (hr.mono (by decide)) (T.glo 92) (da_cons (dv 5) (da_cons (dv 7) (da_cons (dv 18) da_nil)))) da_nil))))) (dw_or1 (dt_not (dt_tru (de_callG F__law_same (hr.mono (by decide)) (T.glo 12) (da_cons (de_callG F_parts (hr.mono (by decide)) (T.glo 84) (da_cons (dv 13) (da_cons (dv 14) da_nil))) (da_cons (dv 10) da_nil)))))))) (dss_one (ds_ret de_bl)) dss_nil)
    (mix_cons (ds_set (i := 21) sc_law.nd rfl (by first | exact .inl rfl | exact .inr rfl) (de_callG F__law_other (hr.mono (by decide)) (T.glo 100) (da_cons (dv 1) (da_cons (dv 3) da_nil))))
    (mix_cons (ds_asg (de_tup (da_cons (de_frz (de_makeG F_Block_init (T.mkr 96) (hr.mono (by decide)) (T.glo 95) (da_cons (de_callG F__law_copied (hr.mono (by decide)) (T.glo 94) (da_cons (dv 21) da_nil)) (da_cons (de_callTy call_list_of cd_list (by rfl) (T.free 0) boot_list (da_cons (dv 4) da_nil)) (da_cons (de_callTy call_list_of cd_list (by rfl) (T.free 0) boot_list (da_cons (dv 6) da_nil)) da_nil))))) (da_cons (de_frz (de_makeG F_Lot_init (T.mkr 60) (hr.mono (by decide)) (T.glo 59) (da_cons (de_callG F__law_copied (hr.mono (by decide)) (T.glo 94) (da_cons (dv 21) da_nil)) (da_cons (de_callTy call_list_of cd_list (by rfl) (T.free 0) boot_list (da_cons (dv 9) da_nil)) da_nil)))) da_nil))) (dg_tup rfl (dgs_cons (dg_name (i := 22) sc_law.nd rfl (by first | exact .inl rfl | exact .inr rfl)) (dgs_cons (dg_name (i := 23) sc_law.nd rfl (by first | exact .inl rfl | exact .inr rfl)) dgs_nil))))
    (mix_nil (pss_cons (ps_lawif (i1 := 13) (i2 := 22) F__law_same (fun _ _ h => same_str h) (T.glo 12) rfl (hr.mono (by decide)) (T.says.def_ 53 rfl) (fun _ _ _ _ _ _ us hl => match us, hl with | [_], _ => rfl) (T.glo 85) rfl sc__law_refused rfl (.inl rfl) rfl rfl (T.glo 81) rfl rfl rfl rfl rfl
      (more_oth T).xf (more_oth T).sup_no (more_oth T).one Rp.1 Rp.2 (T.says_kp 51 rfl) (T.glo 84) rfl TB rfl rfl (hr.mono (by decide)) (LamX.lamS_by (by show LamX.lamSB d_law.scope _ = true; decide +kernel)) rfl (fun _ _ _ _ _ => rfl) rfl rfl (.inr (.inr rfl)) (.inr (.inr rfl))) (pss_cons (ps_lawif (i1 := 23) (i2 := 14) F__law_same (fun _ _ h => same_str h) (T.glo 12) rfl (hr.mono (by decide)) (T.says.def_ 53 rfl) (fun _ _ _ _ _ _ us hl => match us, hl with | [_], _ => rfl) (T.glo 85) rfl sc__law_refused rfl (.inl rfl) rfl rfl (T.glo 81) rfl rfl rfl rfl rfl
      (more_oth T).xf (more_oth T).sup_no (more_oth T).one Rp.1 Rp.2 (T.says_kp 51 rfl) (T.glo 84) rfl TB rfl rfl (hr.mono (by decide)) (LamX.lamS_by (by show LamX.lamSB d_law.scope _ = true; decide +kernel)) rfl (fun _ _ _ _ _ => rfl) rfl rfl (.inr (.inr rfl)) (.inr (.inr rfl))) (dss_one (ds_ret (de_and (de_callG F__law_same (hr.mono (by decide)) (T.glo 12) (da_cons (de_callG F_parts (hr.mono (by decide)) (T.glo 84) (da_cons (dv 23) (da_cons (dv 22) da_nil))) (da_cons (dv 10) da_nil))) (de_one (de_callG F__law_same (hr.mono (by decide)) (T.glo 12) (da_cons (de_callG F_parts (hr.mono (by decide)) (T.glo 84) (da_cons (dv 13) (da_cons (dv 14) da_nil))) (da_cons (dv 10) da_nil)))))))))))))))))))))))))))))))))
end
end K80
/-! V1 -/
namespace K80
open PySem PySem.Spec PyProof.Rows L2 L3
theorem draw_end {μ : Mu} {a : Addr} {n : Int} {P : D → Mu → Prop} {cells : List Int} {i big seed cnt : Int} (h0 : 0 < n) (k : ∀ (r : Int) (μ' : Mu), Ch a μ μ' → BagAt μ' a → 0 ≤ r → r < n → P (D.int r) μ') (r : Int) {μ' : Mu} (c : Ch a μ μ') (hb : BagIn cells i big seed cnt) (hm : μ' a = some (bagO cells i big seed cnt)) : P (.int (r % n)) μ' :=
  k _ _ c ⟨_, _, _, _, _, hm, hb⟩ (Int.emod_nonneg _ (by omega)) (Int.emod_lt_of_pos _ h0)
theorem vc__law_draw {K : PySem.W.Frag} : ∀ ds μ P, sp__law_draw K ds μ P → t__law_draw K { nx := fun _ μ' => P .non μ', rt := P } (startD N__law_draw.length ds) μ := by
  rintro ds μ P ⟨a, n, rfl, ⟨cells, i, big, seed, cnt, hm, hb⟩, h0, hn, k⟩
  unfold t__law_draw
  unfold bagO at hm
  (refine seq_step ?_; simp! only [hm, itemD_own hm])
  -- behind the first if
  suffices h : ∀ (i big seed : Int) (μ' : Mu) (x : Option D), Ch a μ μ' → BagIn cells i big seed (cnt + 1) → μ' a = some (bagO cells i big seed (cnt + 1)) → (wSeq
            (wIfS (wTest (wOp gGt (wOp gIx (wVar 0) (wC (.int 2))) (wC (.int 0)))) (wSeq (wAsg (wOp gMod (wCB gInt1 (wCons (wOp gIx (wVar 0) (wC (.int 2))) wNil)) (wVar 1)) 3)
    (wSeq (wSetI (wVar 0) (wC (.int 2)) (wOp gDivX (wOp gIx (wVar 0) (wC (.int 2))) (wVar 1)))
    (wRet (wVar 3)))) wNext)
    (wSeq (wAsg (wCB gInt1 (wCons (wOp gIx (wVar 0) (wC (.int 3))) wNil)) 4)
    (wSeq (wSetI (wVar 0) (wC (.int 3)) (wOp gMod (wCB gInt1 (wCons (wOp gPlus (wOp gPlus (wOp gPlus (wOp gMulX (wOp gMulX (wVar 4) (wVar 4)) (wC (.int 17))) (wOp gMulX (wVar 4) (wC (.int 47123)))) (wOp gMulX (wOp gIx (wVar 0) (wC (.int 4))) (wC (.int 110339)))) (wC (.int 60089))) wNil)) (wC (.int 2147483549))))
    (wRet (wOp gMod (wCB gInt1 (wCons (wOp gPlus (wOp gDivX (wOp gIx (wVar 0) (wC (.int 3))) (wC (.int 73))) (wOp gMulX (wOp gMod (wCB gInt1 (wCons (wOp gIx (wVar 0) (wC (.int 3))) wNil)) (wC (.int 8039))) (wC (.int 61)))) wNil)) (wVar 1)))))) { nx := fun _ μ' => P .non μ', rt := P } [some (.own a), some (.int n), x, none, none] μ' by
    (refine seq_step ?_; simp! only [itemD_own mset_same, List.length_map])
    by_cases hbig : big = 0
    · rw [if_pos (by simpa using hbig)]
      by_cases hi : i < (cells.length : Int)
      · rw [if_pos (by simpa using hi)]
        have hci : atI (cells.map D.int) i = some (.int (cells.getD i.toNat 0)) := by
          have h0' := hb.i0
          obtain ⟨h, e⟩ := atI_get (xs := cells.map D.int) h0' (by rw [List.length_map]; exact hi)
          rw [e, List.getElem_map, List.getD_eq_getElem?_getD, List.getElem?_eq_getElem (by rw [List.length_map] at h; exact h)]
          rfl
        (refine seq_step ?_; simp! only [itemD_own mset_same, hci])
        generalize cells.getD i.toNat 0 = cell
        (refine seq_step ?_; simp! only [itemD_own mset_same])
        have hi0 := hb.i0
        refine ⟨by unfold CPow; decide, ?_⟩
        have hp : ((10 : Int) ^ (18 : Int).toNat) = 1000000000000000000 := by decide
        rw [hp]
        by_cases hc : (1000000000000000000 : Int) ≤ (if cell < 0 then -cell else cell)
        · rw [if_pos (by simpa using hc)]
          exact h _ _ _ _ _ Ch.set ⟨hb.few, by omega, by omega, hb.s0, hb.s1⟩ mset_same
        · rw [if_neg (by simpa using hc)]
          refine ⟨mulR (by decide) (by decide), by decide, mulR (by decide) (by decide), by decide, ?_⟩
          exact h _ _ _ _ _ Ch.set ⟨hb.few, by omega, by omega, Int.emod_nonneg _ (by decide), Int.lt_trans (Int.emod_lt_of_pos _ (by decide)) (by decide)⟩ mset_same
      · rw [if_neg (by simpa using hi)]
        exact h _ _ _ _ _ Ch.set ⟨hb.few, hb.i0, hb.big0, hb.s0, hb.s1⟩ mset_same
    · rw [if_neg (by simpa using hbig)]
      exact h _ _ _ _ _ Ch.set ⟨hb.few, hb.i0, hb.big0, hb.s0, hb.s1⟩ mset_same
  intro i big seed μ' x c hb hm
  unfold bagO at hm
  (refine seq_step ?_; simp! only [hm, itemD_own hm])
  by_cases hbig : 0 < big
  · rw [if_pos (decide_eq_true hbig)]
    (refine seq_step ?_; simp! only [hm, itemD_own hm])
    refine ⟨h0, ?_⟩
    (refine seq_step ?_; simp! only [hm, itemD_own hm])
    have h1 := hb.big0
    refine ⟨divS (by omega) (by omega), draw_end h0 k big (c.trans Ch.set) (i := i) (big := big.fdiv n) (seed := seed) (cnt := cnt + 1) ⟨hb.few, hb.i0, ?_, hb.s0, hb.s1⟩ mset_same⟩
    rw [Int.fdiv_eq_ediv_of_nonneg _ (by omega)]
    exact Int.ediv_nonneg h1 (by omega)
  · rw [if_neg (by simpa using hbig)]
    (refine seq_step ?_; simp! only [hm, itemD_own hm])
    (refine seq_step ?_; simp! only [hm, itemD_own hm, itemD_own mset_same])
    have h1 := hb.s0
    have h2 := hb.s1
    refine ⟨mulL (by omega) (by omega), mulR (by decide) (by decide), mulR (by decide) (by decide), mulR (by decide) (by decide), by decide, divS (by decide) (by decide), by decide, mulR (by decide) (by decide), h0, ?_⟩
    refine draw_end h0 k _ (c.trans Ch.set) (i := i) (big := big) (seed := (seed * seed * 17 + seed * 47123 + (cnt + 1) * 110339 + 60089) % 2147483549) (cnt := cnt + 1) ⟨hb.few, hb.i0, hb.big0, Int.emod_nonneg _ (by decide), Int.lt_trans (Int.emod_lt_of_pos _ (by decide)) (by decide)⟩ mset_same
end K80
/-! V23 -/
namespace K80
open PySem PySem.Spec PyProof.Rows L2 L3 PySem.W
theorem nodup_of_sd {pts : List (List Int)} (h : pts.Pairwise fun a b => ltL a b = true) : pts.Nodup := h.imp fun {a b} q e => by
  subst e
  rw [ltL_tot.irr] at q; cases q
theorem look_known (qs : List (List Int)) (x : List Int) : (lookG (qs.map fun p => (kI p, D.bl true)) (kI x)).isSome = decide (x ∈ qs) := by
  unfold lookG
  rw [Option.isSome_map]
  induction qs with
  | nil => rfl
  | cons q qs ih =>
    rw [List.map_cons, List.find?_cons]
    by_cases h : q = x
    · subst h
      simp
    · have h1 : ¬ kI q = kI x := fun e => h (kI_inj e)
      rw [show decide ((kI q, D.bl true).1 = kI x) = false from decide_eq_false h1, ih]
      have : ¬ x = q := fun e => h e.symm
      simp [this]
theorem sd_eq {a b : List (List Int)} (ha : a.Pairwise fun a b => ltL a b = true) (hb : b.Pairwise fun a b => ltL a b = true) (h : ∀ x, x ∈ a ↔ x ∈ b) : a = b := by
  have pm : a.Perm b := (List.perm_ext_iff_of_nodup (nodup_of_sd ha) (nodup_of_sd hb)).mpr h
  refine List.Perm.eq_of_pairwise (le := fun a b => ltL a b = true) (fun x y _ _ h1 h2 => ?_) ha hb pm
  rw [ltL_tot.asym h1] at h2; cases h2
theorem filt_ok {deep : Nat} {pts : List (List Int)} (h : LotOk deep pts) (f : List Int → Bool) : LotOk deep (pts.filter f) := ⟨fun p hp => h.pt p (List.mem_filter.mp hp).1, Nat.le_trans (List.length_filter_le f pts) h.few, h.sd.filter f⟩
theorem lot_cut {K : PySem.W.Frag} {neg : Bool} {f : List Int → Bool} {deep : Nat} {n m : NestT} {pts qs : List (List Int)} {μ : Mu} {P : D → Mu → Prop} (hf : ∀ x, f x = if neg then !decide (x ∈ qs) else decide (x ∈ qs)) (e : nestTxt n = nestTxt m) (hn : n.1.length = deep) (h0 : 0 < deep) (h4 : deep ≤ 4) (hp : LotOk deep pts) (hq : LotOk deep qs)
    (p : P (lotI K n (pts.filter f)) μ) : (wSeq (wDrop (wCall (sp_look_alike K) (wCons (wVar 0) (wCons (wVar 1) wNil))))
    (wRet (wFrz (wMake (He.ga K ("Lot" : Str)) (sp_Lot_init K) (wCons (wFld (He.ga K ("Lot" : Str)) ("nest" : Str) (wVar 0)) (wCons (wLc (wSeqI (wFld (He.ga K ("Lot" : Str)) ("_points" : Str) (wVar 0))) (gN 2) (wTest (wOp (gDIn neg) (wVar 2) (wFld (He.ga K ("Lot" : Str)) ("_known" : Str) (wVar 1)))) (wVar 2) [2]) wNil))))))
    { nx := fun _ μ' => P .non μ', rt := P } [some (lotI K n pts), some (lotI K m qs), none] μ := by
  have hfew := hp.few
  (refine seq_step ?_; simp! only [])
  refine ⟨n, m, pts, qs, rfl, e, ?_⟩
  unfold lotI
  simp! only [lot_nest, lot_points, lot_known]
  refine ⟨by simp [lim]; omega, lcD_if tI tI f trivial (fun x hx Ry Rn h1 h2 => ?_) ?_⟩
  · simp! only [gDIn, lot_known]
    have lk : (lookG (qs.map fun p => (kI p, D.bl true)) (kI x)).isSome = decide (x ∈ qs) := look_known qs x
    refine ⟨_, .inr ⟨_, kI x, dicT_dT, (congrArg D.tup (kI_D x)).symm, rfl⟩, ?_⟩
    rw [lk]
    rw [hf x] at h1 h2
    generalize (if neg = true then !decide (x ∈ qs) else decide (x ∈ qs)) = z at h1 h2
    cases z with
    | true => exact h1 _ rfl
    | false => exact h2 rfl
  · intro a ha
    refine ⟨a, deep, n, .lst ((pts.filter f).map tI), (pts.filter f), rfl, .inl rfl, hn, h0, h4, Nat.le_trans (List.length_filter_le f pts) hfew, fun x hx => hp.pt x (List.mem_filter.mp hx).1, mset_same, fun ps ok hm => ⟨rfl, ?_⟩⟩
    have := sd_eq ok.sd (filt_ok hp f).sd hm
    subst this
    rw [mset_mset]
    refine ⟨_, mset_same, ?_⟩
    rw [mdel_mset ha]
    exact p

theorem vc_Lot_sub {K : PySem.W.Frag} : ∀ ds μ P, sp_Lot_sub K ds μ P → t_Lot_sub K { nx := fun _ μ' => P .non μ', rt := P } (startD N_Lot_sub.length ds) μ := by
  rintro ds μ P ⟨deep, n, m, pts, qs, rfl, e, hn, h0, h4, hp, hq, p⟩
  exact lot_cut (neg := true) (f := fun x => x ∉ qs) (fun x => by by_cases h : x ∈ qs <;> simp [h]) e hn h0 h4 hp hq p
theorem vc_Lot_and {K : PySem.W.Frag} : ∀ ds μ P, sp_Lot_and K ds μ P → t_Lot_and K { nx := fun _ μ' => P .non μ', rt := P } (startD N_Lot_and.length ds) μ := by
  rintro ds μ P ⟨deep, n, m, pts, qs, rfl, e, hn, h0, h4, hp, hq, p⟩
  exact lot_cut (neg := false) (f := fun x => x ∈ qs) (fun x => by by_cases h : x ∈ qs <;> simp [h]) e hn h0 h4 hp hq p
end K80
/-! V27 -/
namespace K80
open PySem PySem.Spec PyProof.Rows L2 L3 PySem.W
theorem pow_pos' (c : Nat) : 1 ≤ 2 ^ exq c := Nat.pow_pos (by omega)
theorem mset_at {μ : Mu} {p : Addr} {o u : MO} : mset (mset μ p o) p u = mset μ p u := mset_mset
structure SetW (n : Nat) (B : List (List Int)) (c : Nat) (p : Addr) (μ : Mu) (m : Nat) (δ : De) (μ' : Mu) : Prop where
  ex : ∃ L1 x2 x3 x4, ∃ b : Nat, Mid n B c (2 ^ exq c) L1 ∧ Least n c (en L1) c ∧ δ = [some (.own p), some (.int c), x2, x3, x4] ∧ μ' = mset μ p (.lst (L1.map tI)) ∧ m = 2 * (en L1 c c).natAbs + b ∧ b ≤ 1 ∧ ((∃ k, k < n ∧ c < k ∧ en L1 k c ≠ 0) → b = 1)
theorem vc_settle {K : PySem.W.Frag} : ∀ ds μ P, sp_settle K ds μ P → t_settle K { nx := fun _ μ' => P .non μ', rt := P } (startD N_settle.length ds) μ := by
  rintro ds μ P ⟨p, n, c, B, L, rfl, hm, hc, T, k⟩
  have h4 := T.n4
  have hA := pow_pos' c
  have M0 : Mid n B c (2 ^ exq c) L := ⟨h4, hc, T.len, T.row, T.good, .inl T.bd⟩
  unfold t_settle
  (refine seq_step ?_; simp! only [])
  refine ⟨p, n, c, L, rfl, hm, h4, hc, T.len, fun r hr => by have := T.row r hr; omega, live_of T.good hc, fun k1 l1 => ?_⟩
  obtain ⟨M1, l1', _⟩ := M0.bring l1
  refine seq_step ?_
  refine ⟨SetW n B c p μ, ⟨_, ⟨swapL L c k1, none, none, none, 1, M1, l1', rfl, rfl, rfl, Nat.le_refl _, fun _ => rfl⟩⟩, ?_⟩
  rintro m δ μ1 ⟨L1, x2, x3, x4, b, M, l, rfl, rfl, rfl, hb1, hb⟩
  have hl := M.len
  have hm1 : mset μ p (.lst (L1.map tI)) p = some (.lst (L1.map tI)) := mset_same
  have cut : L3.cutD (L1.map tI) (some ((c : Int) + 1)) none = (L1.drop (c + 1)).map tI := by
    have : ((c : Int) + 1) = ((c + 1 : Nat) : Int) := by omega
    rw [this, L3.cut_lo, List.map_drop]
  simp! only [sliceD_own hm1, cut]
  refine ⟨by simp [lim]; omega, lcD_if tI tI (fun r => decide (r.getD c 0 ≠ 0)) trivial (fun r hr Ry Rn h1 h2 => ?_) ?_⟩
  · have hlen := M.row r (List.mem_of_mem_drop hr)
    have hB : itemD (mset μ p (.lst (L1.map tI))) (tI r) (c : Int) = some (.int (r.getD c 0)) := ent_at (by omega)
    simp! only [hB]
    by_cases q : r.getD c 0 = 0
    · have := h2 (if_neg (by simpa using q))
      rw [if_neg (by simpa using q)]; exact this
    · have := h1 (tI r) (if_pos (decide_eq_true q))
      rw [if_pos (by simpa using q)]; exact this
  · rw [List.nil_append]
    simp! only []
    by_cases hlive : ∃ k, k < n ∧ c < k ∧ en L1 k c ≠ 0
    · obtain ⟨kl, hkl, ckl, lkl⟩ := hlive
      have hne : ((L1.drop (c + 1)).filter fun r => decide (r.getD c 0 ≠ 0)) ≠ [] := fun e => by
        have hin : L1.getD kl [] ∈ L1.drop (c + 1) := by
          rw [List.mem_drop_iff_getElem]
          refine ⟨kl - (c + 1), by omega, ?_⟩
          rw [List.getD_eq_getElem?_getD, List.getElem?_eq_getElem (by omega)]
          simp [show c + 1 + (kl - (c + 1)) = kl by omega]
        have := List.filter_eq_nil_iff.mp e _ hin
        simp at this
        exact lkl (by unfold en; simpa using this)
      have hb' := hb ⟨kl, hkl, ckl, lkl⟩
      have em : (((L1.drop (c + 1)).filter fun r => decide (r.getD c 0 ≠ 0)).map tI).isEmpty = false := by
        cases e : (L1.drop (c + 1)).filter fun r => decide (r.getD c 0 ≠ 0) with
        | nil => exact absurd e hne
        | cons a r => rfl
      rw [em]
      simp! only [Bool.not_false]
      refine seq_step ?_
      simp! only [lenD_own hm1, List.length_map, hl]
      refine ⟨⟨by omega, by omega⟩, ⟨by omega, by omega⟩, ?_⟩
      have er : rangeD ((c : Int) + 1) ((n : Int) - (c + 1)).toNat = (List.range (n - (c + 1))).map fun (i : Nat) => D.int ((c + 1 + i : Nat) : Int) := by
        have := rangeD_2 (c + 1) n
        rw [show (((c + 1 : Nat) : Int)) = (c : Int) + 1 by omega] at this
        exact this
      rw [er]
      have hc2 : c ≤ 2 := by omega
      have hdl := M.small hA hc
      refine forD_inv (fun i δ μ' => ∃ x3 L2, δ = [some (.own p), some (.int c), x2, x3, x4] ∧ μ' = mset μ p (.lst (L2.map tI)) ∧ Upto n L1 (fun k => movedI (L1.getD k []) (L1.getD c []) (-((en L1 k c).fdiv (en L1 c c)))) (fun k => c < k ∧ k < c + 1 + i) L2) 0 ⟨x3, L1, rfl, rfl, .start hl fun k hk q => by omega⟩ (fun _ _ _ _ => trivial) ?_ ?_
      · rintro i x δ μ2 hx ⟨x3', L2, rfl, rfl, U⟩ nx hnx
        rw [Nat.zero_add] at U hnx
        rw [List.getElem?_map, Option.map_eq_some_iff] at hx
        obtain ⟨i', hi', rfl⟩ := hx
        have hi : i < n - (c + 1) ∧ i' = i := by
          rw [List.getElem?_eq_some_iff] at hi'
          obtain ⟨h1, h2⟩ := hi'
          rw [List.getElem_range] at h2
          exact ⟨by simpa using h1, h2.symm⟩
        obtain ⟨hi, rfl⟩ := hi
        have hat : c + 1 + i' < n := by omega
        have hm2 : mset μ p (.lst (L2.map tI)) p = some (.lst (L2.map tI)) := mset_same
        have r1 : L2.getD (c + 1 + i') [] = L1.getD (c + 1 + i') [] := U.no _ hat (by omega)
        have r2 : L2.getD c [] = L1.getD c [] := U.no _ hc (by omega)
        have a1 := row_at (L := L2) (k := c + 1 + i') (by rw [U.len]; omega)
        have a2 := row_at (L := L2) (k := c) (by rw [U.len]; omega)
        rw [r1] at a1
        rw [r2] at a2
        have l1r := rowOf hl M.row hat
        have l2r := rowOf hl M.row hc
        have b1 : ∀ μ, itemD μ (tI (L1.getD (c + 1 + i') [])) (c : Int) = some (.int (en L1 (c + 1 + i') c)) := fun μ => ent_at (by omega)
        have b2 : ∀ μ, itemD μ (tI (L1.getD c [])) (c : Int) = some (.int (en L1 c c)) := fun μ => ent_at (by omega)
        have d1 : (en L1 (c + 1 + i') c).natAbs ≤ 4 * (2 ^ exq c) ^ 5 := M.eu.bd hA _ hat c (by omega)
        have d2 : (en L1 c c).natAbs ≤ 4 * (2 ^ exq c) ^ 5 := M.eu.bd hA _ hc c (by omega)
        simp! only [itemD_own hm2, a1, a2, b1, b2]
        refine ⟨div_of hc2 l.live d2, L1.getD (c + 1 + i') [], L1.getD c [], -((en L1 (c + 1 + i') c).fdiv (en L1 c c)), rfl, by omega, fun x hx => ?_, ?_⟩
        · refine wide_of (c := c) (by omega) ?_ (hdl x hx)
          rw [Int.natAbs_neg]
          exact Nat.le_trans (fdiv_abs _ _ l.live) d1
        · refine ⟨_, hm2, c + 1 + i', ixN_nat (by rw [List.length_map, U.len]; omega), hnx _ _ ⟨_, _, rfl, ?_, U.more hat fun k => by omega⟩⟩
          rw [mset_mset, map_set_tI]
      · rintro δ μ2 ⟨x3', L2, rfl, rfl, U⟩
        have hlen : 0 + ((List.range (n - (c + 1))).map fun (i : Nat) => D.int ((c + 1 + i : Nat) : Int)).length = n - (c + 1) := by simp
        rw [hlen] at U
        have U' : Upto n L1 (fun k => movedI (L1.getD k []) (L1.getD c []) (-((en L1 k c).fdiv (en L1 c c)))) (fun k => c < k) L2 := ⟨U.len, fun k hk q => U.yes k hk ⟨q, by omega⟩, fun k hk q => U.no k hk fun z => q z.1⟩
        obtain ⟨M2, hlt, elead⟩ := M.pass l hA U' hkl ckl lkl
        have hm2 : mset μ p (.lst (L2.map tI)) p = some (.lst (L2.map tI)) := mset_same
        simp! only []
        refine ⟨p, n, c, L2, rfl, hm2, h4, hc, U.len, fun r hr => by have := M2.row r hr; omega, live_of M2.good hc, fun k2 l2 => ?_⟩
        obtain ⟨M3, l3, e3⟩ := M2.bring l2
        rw [mset_mset]
        have ec : en (swapL L2 c k2) c c = en L2 k2 c := by rw [e3]; unfold sw; split <;> simp_all
        by_cases q : ∃ k, k < n ∧ c < k ∧ en (swapL L2 c k2) k c ≠ 0
        · refine ⟨_, ?_, ⟨swapL L2 c k2, _, _, _, 1, M3, l3, rfl, rfl, rfl, Nat.le_refl _, fun _ => rfl⟩⟩
          obtain ⟨kq, hkq, ckq, lq⟩ := q
          rw [ec, hb']
          have : (en L2 k2 c).natAbs < (en L1 c c).natAbs := by
            by_cases z : k2 = c
            · subst z
              have e4 : en (swapL L2 k2 k2) kq k2 = en L2 kq k2 := by rw [e3]; unfold sw; split <;> simp_all
              rw [e4] at lq
              exact Nat.lt_of_le_of_lt (l2.least kq hkq (by omega) lq) (hlt kq hkq ckq)
            · exact hlt k2 l2.kn (by have := l2.ck; omega)
          omega
        · refine ⟨_, ?_, ⟨swapL L2 c k2, _, _, _, 0, M3, l3, rfl, rfl, rfl, by omega, fun z => absurd z q⟩⟩
          rw [ec, hb']
          have : (en L2 k2 c).natAbs ≤ (en L1 c c).natAbs := by
            by_cases z : k2 = c
            · rw [z, elead]; exact Nat.le_refl _
            · exact Nat.le_of_lt (hlt k2 l2.kn (by have := l2.ck; omega))
          omega
    · have hz : ∀ k, k < n → c < k → en L1 k c = 0 := fun k hk ck => Classical.byContradiction fun q => hlive ⟨k, hk, ck, q⟩
      have he : ((L1.drop (c + 1)).filter fun r => decide (r.getD c 0 ≠ 0)) = [] := by
        rw [List.filter_eq_nil_iff]
        intro r hr
        rw [List.mem_drop_iff_getElem] at hr
        obtain ⟨i, hi, rfl⟩ := hr
        have := hz (c + 1 + i) (by omega) (by omega)
        have e : L1.getD (c + 1 + i) [] = L1[c + 1 + i] := by rw [List.getD_eq_getElem?_getD, List.getElem?_eq_getElem (by omega)]; rfl
        unfold en at this
        rw [e] at this
        rw [this]; simp
      have em : (((L1.drop (c + 1)).filter fun r => decide (r.getD c 0 ≠ 0)).map tI).isEmpty = true := by rw [he]; rfl
      rw [em]
      simp! only [Bool.not_true]
      have hpiv : en L1 c c ∣ 1 := M.good.pivot hc fun k hk ck => by
        by_cases z : k = c
        · rw [z]; exact Int.dvd_refl _
        · rw [hz k hk (by omega)]; exact Int.dvd_zero _
      have hAb := M.eu.bd hA
      -- the lead's sign
      have fin : ∀ L2 x2 x3 x4, L2.length = n → (∀ r ∈ L2, r.length = 2 * n) → GoodF n (en B) c (en L2) → Bd n (en L2) (4 * (2 ^ exq c) ^ 5) → en L2 c c = 1 → (∀ k, k < n → c < k → en L2 k c = 0) →
          t_settle_r1 K { nx := fun x μ' => P D.non μ', rt := P } [some (.own p), some (.int c), x2, x3, x4] (mset μ p (.lst (L2.map tI))) := fun L2 x2 x3 x4 hl2 hr2 G2 B2 h1 hz2 => by
        unfold t_settle_r1
        simp! only []
        refine ⟨⟨by omega, by omega⟩, ?_⟩
        rw [Int.toNat_natCast, rangeD_0]
        refine forD_inv (fun i δ μ' => ∃ x3 L3, δ = [some (.own p), some (.int c), x2, x3, x4] ∧ μ' = mset μ p (.lst (L3.map tI)) ∧ Upto n L2 (fun k => movedI (L2.getD k []) (L2.getD c []) (-(en L2 k c))) (fun k => k < i) L3) 0 ⟨x3, L2, rfl, rfl, .start hl2 fun k hk q => by omega⟩ (fun _ _ _ _ => trivial) ?_ ?_
        · rintro i x δ μ2 hx ⟨x3', L3, rfl, rfl, U⟩ nx hnx
          rw [Nat.zero_add] at U hnx
          rw [List.getElem?_map, Option.map_eq_some_iff] at hx
          obtain ⟨i', hi', rfl⟩ := hx
          have hi : i < c ∧ i' = i := by
            rw [List.getElem?_eq_some_iff] at hi'
            obtain ⟨h1, h2⟩ := hi'
            rw [List.getElem_range] at h2
            exact ⟨by simpa using h1, h2.symm⟩
          obtain ⟨hi, rfl⟩ := hi
          have hm2 : mset μ p (.lst (L3.map tI)) p = some (.lst (L3.map tI)) := mset_same
          have r1 : L3.getD i' [] = L2.getD i' [] := U.no _ (by omega) (by omega)
          have r2 : L3.getD c [] = L2.getD c [] := U.no _ hc (by omega)
          have a1 := row_at (L := L3) (k := i') (by rw [U.len]; omega)
          have a2 := row_at (L := L3) (k := c) (by rw [U.len]; omega)
          rw [r1] at a1
          rw [r2] at a2
          have l1r := rowOf hl2 hr2 (k := i') (by omega)
          have l2r := rowOf hl2 hr2 hc
          have b1 : ∀ μ, itemD μ (tI (L2.getD i' [])) (c : Int) = some (.int (en L2 i' c)) := fun μ => ent_at (by omega)
          simp! only [itemD_own hm2, a1, a2, b1]
          refine ⟨L2.getD i' [], L2.getD c [], -(en L2 i' c), rfl, by omega, fun x hx => ?_, ?_⟩
          · obtain ⟨j, hj, rfl⟩ := get_ent hx
            refine wide_of (c := c) (by omega) ?_ (B2 c hc j (by omega))
            rw [Int.natAbs_neg]
            exact B2 i' (by omega) c (by omega)
          · refine ⟨_, hm2, i', ixN_nat (by rw [List.length_map, U.len]; omega), hnx _ _ ⟨_, _, rfl, ?_, U.more (i := i') (by omega) fun k => by omega⟩⟩
            rw [mset_mset, map_set_tI]
        · rintro δ μ2 ⟨x3', L3, rfl, rfl, U⟩
          have hlen : 0 + ((List.range c).map fun (i : Nat) => D.int (i : Int)).length = c := by simp
          rw [hlen] at U
          have e : ∀ k, k < n → ∀ j, j < 2 * n → en L3 k j = en L2 k j - (if k < c then en L2 k c else 0) * en L2 c j := fun k hk j hj => by
            by_cases h : k < c
            · have r1 := rowOf hl2 hr2 hk
              have r2 := rowOf hl2 hr2 hc
              have : en L3 k j = en L2 k j + -(en L2 k c) * en L2 c j := by
                show (L3.getD k []).getD j 0 = _
                rw [U.yes k hk h, movedI_at (by omega) (by omega)]; rfl
              rw [this, if_pos h]; grind
            · have : en L3 k j = en L2 k j := by show (L3.getD k []).getD j 0 = _; rw [U.no k hk h]; rfl
              rw [this, if_neg h]; omega
          have G3 : GoodF n (en B) c (en L3) := G2.add (t := fun k => if k < c then en L2 k c else 0) hc (Nat.le_refl _) (if_neg (by omega)) e (by omega)
          refine k L3 ⟨h4, by omega, U.len, all_row U.len fun k hk => ?_, G3.next fun k hk => ?_, bd_next ?_⟩
          · by_cases h : k < c
            · rw [U.yes k hk h]; exact movedI_len (rowOf hl2 hr2 hk) (rowOf hl2 hr2 hc)
            · rw [U.no k hk h]; exact rowOf hl2 hr2 hk
          · rw [e k hk c (by omega), h1]
            unfold dl
            by_cases h : k < c
            · rw [if_pos h, if_neg (by omega)]; omega
            · rw [if_neg h]
              by_cases h3 : k = c
              · subst h3; rw [if_pos rfl, h1]; omega
              · rw [if_neg h3, hz2 k hk (by omega)]; omega
          · refine bd_clear (t := fun k => if k < c then en L2 k c else 0) B2 hc (fun k hk => ?_) e
            split
            · exact B2 k hk c (by omega)
            · simp
      have rc := row_at (L := L1) (k := c) (by omega)
      have rcl := rowOf hl M.row hc
      have bc : ∀ μ, itemD μ (tI (L1.getD c [])) (c : Int) = some (.int (en L1 c c)) := fun μ => ent_at (by omega)
      (refine seq_step ?_; simp! only [itemD_own hm1, rc, bc])
      have hunit : en L1 c c = 1 ∨ en L1 c c = -1 := by
        have := Int.natAbs_dvd_natAbs.mpr hpiv
        have := Nat.dvd_one.mp this
        omega
      rcases hunit with h1 | h1
      · rw [if_neg (by rw [h1]; decide)]
        exact fin L1 _ _ _ hl M.row M.good hAb h1 hz
      · rw [if_pos (by rw [h1]; decide)]
        have hneg : ((L1.getD c []).map fun x => -x).length = 2 * n := by rw [List.length_map]; exact rcl
        refine ⟨(L1.getD c []).map D.int, rfl, by rw [List.length_map, rcl]; show 2 * n ≤ 100000; omega, lcD_of D.int (fun x => .int (-x)) (by trivial) (fun x hx Ry Rn g1 g2 => ?_) ?_⟩
        · simp! only []
          exact g1 _ rfl
        · rw [List.nil_append]
          have ed : (L1.getD c []).map (fun x => D.int (-x)) = ((L1.getD c []).map fun x => -x).map D.int := by rw [List.map_map]; rfl
          rw [ed]
          refine ⟨_, rfl, _, hm1, c, ixN_nat (by rw [List.length_map]; omega), ?_⟩
          rw [mset_mset]
          show t_settle_r1 K _ _ (mset μ p (.lst ((L1.map tI).set c (tI ((L1.getD c []).map fun x => -x)))))
          rw [map_set_tI]
          have e : ∀ k, k < n → ∀ j, j < 2 * n → en (L1.set c ((L1.getD c []).map fun x => -x)) k j = (if k = c then -1 else 1) * en L1 k j := fun k hk j hj => by
            rw [en_set (by omega)]
            by_cases q : k = c
            · subst q
              rw [if_pos rfl, if_pos rfl, getD_map0 (by omega)]
              unfold en; omega
            · rw [if_neg q, if_neg q]; omega
          refine fin _ _ _ _ (by rw [List.length_set]; exact hl) (fun r hr => ?_) (M.good.neg (s := fun k => if k = c then -1 else 1) (fun k _ => by by_cases q : k = c <;> simp [q]) (fun k hk => if_neg (by omega)) e (by omega)) (fun k hk j hj => ?_) ?_ (fun k hk ck => ?_)
          · rcases mem_set_or hr with q | q
            · exact M.row r q
            · rw [q]; exact hneg
          · have := hAb k hk j hj
            rw [e k hk j hj]
            split <;> omega
          · rw [e c hc c (by omega), if_pos rfl, h1]; rfl
          · rw [e k hk c (by omega), hz k hk ck]; omega
end K80
/-! K80Ok -/
namespace K80
open PySem PySem.Spec PyProof.Rows L2 L3
abbrev PW : Program := PySem.Challenge.pw_leastfetched_k80_whole_parts
theorem len__law_same {K : PySem.W.Frag} (n : Nat) : ∀ ds μ P, spSame n ds μ P → ds.length = p__law_same.length := by
  cases n with
  | zero => exact fun ds μ P h => h.elim
  | succ n =>
    rintro ds μ P ⟨f, d, p, rfl, _⟩
    rfl
section
variable {Pg : Program} {w : World} {K : PySem.W.Frag} {mg : Str → Option Value} {base : Heap}

theorem len__law_bag {K : PySem.W.Frag} : ∀ ds μ P, sp__law_bag K ds μ P → ds.length = p__law_bag.length := by
  rintro ds μ P ⟨_, rfl, _⟩
  rfl
theorem ok__law_bag (T : Tp facts defs exOk K mg)  : GDef Pg w K mg base k__law_bag (He.fAd K d__law_bag.at_) p__law_bag (sp__law_bag K) :=
  def_ok T 0 rfl rfl sc__law_bag (fun _ _ _ _ _ _ us hl => match us, hl with | [_], _ => rfl) len__law_bag (der__law_bag T ) vc__law_bag
theorem len__law_draw {K : PySem.W.Frag} : ∀ ds μ P, sp__law_draw K ds μ P → ds.length = p__law_draw.length := by
  rintro ds μ P ⟨_, _, rfl, _⟩
  rfl
theorem ok__law_draw (T : Tp facts defs exOk K mg)  : GDef Pg w K mg base k__law_draw (He.fAd K d__law_draw.at_) p__law_draw (sp__law_draw K) :=
  def_ok T 1 rfl rfl sc__law_draw (fun _ _ _ _ _ _ us hl => match us, hl with | [_, _], _ => rfl) len__law_draw (der__law_draw T ) vc__law_draw
theorem len__law_of {K : PySem.W.Frag} : ∀ ds μ P, sp__law_of K ds μ P → ds.length = p__law_of.length := by
  rintro ds μ P ⟨_, _, rfl, _⟩
  rfl
theorem ok__law_of (T : Tp facts defs exOk K mg) (F__law_draw : GDef Pg w K mg base k__law_draw (He.fAd K d__law_draw.at_) p__law_draw (sp__law_draw K)) : GDef Pg w K mg base k__law_of (He.fAd K d__law_of.at_) p__law_of (sp__law_of K) :=
  def_ok T 2 rfl rfl sc__law_of (fun _ _ _ _ _ _ us hl => match us, hl with | [_, _], _ => rfl) len__law_of (der__law_of T F__law_draw) vc__law_of
theorem len__law_pick {K : PySem.W.Frag} : ∀ ds μ P, sp__law_pick K ds μ P → ds.length = p__law_pick.length := by
  rintro ds μ P ⟨_, _, _, rfl, _⟩
  rfl
theorem ok__law_pick (T : Tp facts defs exOk K mg) (F__law_draw : GDef Pg w K mg base k__law_draw (He.fAd K d__law_draw.at_) p__law_draw (sp__law_draw K)) : GDef Pg w K mg base k__law_pick (He.fAd K d__law_pick.at_) p__law_pick (sp__law_pick K) :=
  def_okF T 3 rfl rfl sc__law_pick (fun _ _ _ _ _ _ us hl => match us, hl with | [_, _, _], _ => rfl) len__law_pick (der__law_pick T F__law_draw) vc__law_pick
theorem len__law_units {K : PySem.W.Frag} : ∀ ds μ P, sp__law_units K ds μ P → ds.length = p__law_units.length := by
  rintro ds μ P ⟨_, rfl, _⟩
  rfl
theorem ok__law_units (T : Tp facts defs exOk K mg)  : GDef Pg w K mg base k__law_units (He.fAd K d__law_units.at_) p__law_units (sp__law_units K) :=
  def_ok T 5 rfl rfl sc__law_units (fun _ _ _ _ _ _ us hl => match us, hl with | [_], _ => rfl) len__law_units (der__law_units T ) vc__law_units
theorem len__law_names {K : PySem.W.Frag} : ∀ ds μ P, sp__law_names K ds μ P → ds.length = p__law_names.length := by
  rintro ds μ P ⟨_, _, rfl, _⟩
  rfl
theorem ok__law_names (T : Tp facts defs exOk K mg) (F__law_of : GDef Pg w K mg base k__law_of (He.fAd K d__law_of.at_) p__law_of (sp__law_of K)) : GDef Pg w K mg base k__law_names (He.fAd K d__law_names.at_) p__law_names (sp__law_names K) :=
  def_ok T 6 rfl rfl sc__law_names (fun _ _ _ _ _ _ us hl => match us, hl with | [_, _], _ => rfl) len__law_names (der__law_names T F__law_of) vc__law_names
theorem len__law_row {K : PySem.W.Frag} : ∀ ds μ P, sp__law_row K ds μ P → ds.length = p__law_row.length := by
  rintro ds μ P ⟨_, _, _, rfl, _⟩
  rfl
theorem ok__law_row (T : Tp facts defs exOk K mg) (F__law_of : GDef Pg w K mg base k__law_of (He.fAd K d__law_of.at_) p__law_of (sp__law_of K)) (F__law_draw : GDef Pg w K mg base k__law_draw (He.fAd K d__law_draw.at_) p__law_draw (sp__law_draw K)) : GDef Pg w K mg base k__law_row (He.fAd K d__law_row.at_) p__law_row (sp__law_row K) :=
  def_ok T 7 rfl rfl sc__law_row (fun _ _ _ _ _ _ us hl => match us, hl with | [_, _, _], _ => rfl) len__law_row (der__law_row T F__law_of F__law_draw) vc__law_row
theorem len__law_matrices {K : PySem.W.Frag} : ∀ ds μ P, sp__law_matrices K ds μ P → ds.length = p__law_matrices.length := by
  rintro ds μ P ⟨_, _, _, _, rfl, _⟩
  rfl
theorem ok__law_matrices (T : Tp facts defs exOk K mg) (F__law_of : GDef Pg w K mg base k__law_of (He.fAd K d__law_of.at_) p__law_of (sp__law_of K)) (F__law_row : GDef Pg w K mg base k__law_row (He.fAd K d__law_row.at_) p__law_row (sp__law_row K)) : GDef Pg w K mg base k__law_matrices (He.fAd K d__law_matrices.at_) p__law_matrices (sp__law_matrices K) :=
  def_ok T 8 rfl rfl sc__law_matrices (fun _ _ _ _ _ _ us hl => match us, hl with | [_, _, _, _], _ => rfl) len__law_matrices (der__law_matrices T F__law_of F__law_row) vc__law_matrices
theorem len__law_array {K : PySem.W.Frag} : ∀ ds μ P, sp__law_array K ds μ P → ds.length = p__law_array.length := by
  rintro ds μ P ⟨_, rfl, _⟩
  rfl
theorem ok__law_array (T : Tp facts defs exOk K mg) (F__law_of : GDef Pg w K mg base k__law_of (He.fAd K d__law_of.at_) p__law_of (sp__law_of K)) : GDef Pg w K mg base k__law_array (He.fAd K d__law_array.at_) p__law_array (sp__law_array K) :=
  def_ok T 9 rfl rfl sc__law_array (fun _ _ _ _ _ _ us hl => match us, hl with | [_], _ => rfl) len__law_array (der__law_array T F__law_of) vc__law_array
theorem len__law_dressed {K : PySem.W.Frag} : ∀ ds μ P, sp__law_dressed K ds μ P → ds.length = p__law_dressed.length := by
  rintro ds μ P ⟨_, _, _, _, rfl, _⟩
  rfl
theorem ok__law_dressed (T : Tp facts defs exOk K mg) (F__law_of : GDef Pg w K mg base k__law_of (He.fAd K d__law_of.at_) p__law_of (sp__law_of K)) (F__law_draw : GDef Pg w K mg base k__law_draw (He.fAd K d__law_draw.at_) p__law_draw (sp__law_draw K)) (F__law_array : GDef Pg w K mg base k__law_array (He.fAd K d__law_array.at_) p__law_array (sp__law_array K)) : GDef Pg w K mg base k__law_dressed (He.fAd K d__law_dressed.at_) p__law_dressed (sp__law_dressed K) :=
  def_ok T 10 rfl rfl sc__law_dressed (fun _ _ _ _ _ _ us hl => match us, hl with | [_, _], _ => rfl) len__law_dressed (der__law_dressed T F__law_of F__law_draw F__law_array) vc__law_dressed
theorem len__law_nest {K : PySem.W.Frag} : ∀ ds μ P, sp__law_nest K ds μ P → ds.length = p__law_nest.length := by
  rintro ds μ P ⟨_, _, _, _, rfl, _⟩
  rfl
theorem ok__law_nest (T : Tp facts defs exOk K mg) (F__law_dressed : GDef Pg w K mg base k__law_dressed (He.fAd K d__law_dressed.at_) p__law_dressed (sp__law_dressed K)) (F__law_names : GDef Pg w K mg base k__law_names (He.fAd K d__law_names.at_) p__law_names (sp__law_names K)) : GDef Pg w K mg base k__law_nest (He.fAd K d__law_nest.at_) p__law_nest (sp__law_nest K) :=
  def_ok T 11 rfl rfl sc__law_nest (fun _ _ _ _ _ _ us hl => match us, hl with | [_, _, _], _ => rfl) len__law_nest (der__law_nest T F__law_dressed F__law_names) vc__law_nest
theorem len_is_counter_name {K : PySem.W.Frag} : ∀ ds μ P, sp_is_counter_name K ds μ P → ds.length = p_is_counter_name.length := by
  rintro ds μ P ⟨_, rfl, _⟩
  rfl
theorem ok_is_counter_name (T : Tp facts defs exOk K mg)  : GDef Pg w K mg base k_is_counter_name (He.fAd K d_is_counter_name.at_) p_is_counter_name (sp_is_counter_name K) :=
  def_ok T 12 rfl rfl sc_is_counter_name (fun _ _ _ _ _ _ us hl => match us, hl with | [_], _ => rfl) len_is_counter_name (der_is_counter_name T ) vc_is_counter_name
theorem len_counters_fault {K : PySem.W.Frag} : ∀ ds μ P, sp_counters_fault K ds μ P → ds.length = p_counters_fault.length := by
  rintro ds μ P ⟨_, _, rfl, _⟩
  rfl
theorem ok_counters_fault (T : Tp facts defs exOk K mg) (F_is_counter_name : GDef Pg w K mg base k_is_counter_name (He.fAd K d_is_counter_name.at_) p_is_counter_name (sp_is_counter_name K)) : GDef Pg w K mg base k_counters_fault (He.fAd K d_counters_fault.at_) p_counters_fault (sp_counters_fault K) :=
  def_ok T 13 rfl rfl sc_counters_fault (fun _ _ _ _ _ _ us hl => match us, hl with | [_], _ => rfl) len_counters_fault (der_counters_fault T F_is_counter_name) vc_counters_fault
theorem len_look_at_counters {K : PySem.W.Frag} : ∀ ds μ P, sp_look_at_counters K ds μ P → ds.length = p_look_at_counters.length := by
  rintro ds μ P ⟨_, _, rfl, _⟩
  rfl
theorem ok_look_at_counters (T : Tp facts defs exOk K mg) (F_counters_fault : GDef Pg w K mg base k_counters_fault (He.fAd K d_counters_fault.at_) p_counters_fault (sp_counters_fault K)) : GDef Pg w K mg base k_look_at_counters (He.fAd K d_look_at_counters.at_) p_look_at_counters (sp_look_at_counters K) :=
  def_ok T 14 rfl rfl sc_look_at_counters (fun _ _ _ _ _ _ us hl => match us, hl with | [_], _ => rfl) len_look_at_counters (der_look_at_counters T F_counters_fault) vc_look_at_counters
theorem len_is_array_name {K : PySem.W.Frag} : ∀ ds μ P, sp_is_array_name K ds μ P → ds.length = p_is_array_name.length := by
  rintro ds μ P ⟨_, rfl, _⟩
  rfl
theorem ok_is_array_name (T : Tp facts defs exOk K mg)  : GDef Pg w K mg base k_is_array_name (He.fAd K d_is_array_name.at_) p_is_array_name (sp_is_array_name K) :=
  def_ok T 15 rfl rfl sc_is_array_name (fun _ _ _ _ _ _ us hl => match us, hl with | [_], _ => rfl) len_is_array_name (der_is_array_name T ) vc_is_array_name
theorem len_look_at_touches {K : PySem.W.Frag} : ∀ ds μ P, sp_look_at_touches K ds μ P → ds.length = p_look_at_touches.length := by
  rintro ds μ P ⟨_, _, rfl, _⟩
  rfl
theorem ok_look_at_touches (T : Tp facts defs exOk K mg) (F_is_array_name : GDef Pg w K mg base k_is_array_name (He.fAd K d_is_array_name.at_) p_is_array_name (sp_is_array_name K)) : GDef Pg w K mg base k_look_at_touches (He.fAd K d_look_at_touches.at_) p_look_at_touches (sp_look_at_touches K) :=
  def_okF T 16 rfl rfl sc_look_at_touches (fun _ _ _ _ _ _ us hl => match us, hl with | [_, _], _ => rfl) len_look_at_touches (der_look_at_touches T F_is_array_name) vc_look_at_touches
theorem len_integer_text {K : PySem.W.Frag} : ∀ ds μ P, sp_integer_text K ds μ P → ds.length = p_integer_text.length := by
  rintro ds μ P ⟨_, rfl, _⟩
  rfl
theorem ok_integer_text (T : Tp facts defs exOk K mg)  : GDef Pg w K mg base k_integer_text (He.fAd K d_integer_text.at_) p_integer_text (sp_integer_text K) :=
  def_ok T 17 rfl rfl sc_integer_text (fun _ _ _ _ _ _ us hl => match us, hl with | [_], _ => rfl) len_integer_text (der_integer_text T ) vc_integer_text
theorem len_subscript_text {K : PySem.W.Frag} : ∀ ds μ P, sp_subscript_text K ds μ P → ds.length = p_subscript_text.length := by
  rintro ds μ P ⟨_, _, _, rfl, _⟩
  rfl
theorem ok_subscript_text (T : Tp facts defs exOk K mg) (F_integer_text : GDef Pg w K mg base k_integer_text (He.fAd K d_integer_text.at_) p_integer_text (sp_integer_text K)) : GDef Pg w K mg base k_subscript_text (He.fAd K d_subscript_text.at_) p_subscript_text (sp_subscript_text K) :=
  def_okF T 18 rfl rfl sc_subscript_text (fun _ _ _ _ _ _ us hl => match us, hl with | [_, _, _], _ => rfl) len_subscript_text (der_subscript_text T F_integer_text) vc_subscript_text
theorem len_touch_text {K : PySem.W.Frag} : ∀ ds μ P, sp_touch_text K ds μ P → ds.length = p_touch_text.length := by
  rintro ds μ P ⟨_, _, _, rfl, _⟩
  rfl
theorem ok_touch_text (T : Tp facts defs exOk K mg) (F_subscript_text : GDef Pg w K mg base k_subscript_text (He.fAd K d_subscript_text.at_) p_subscript_text (sp_subscript_text K)) : GDef Pg w K mg base k_touch_text (He.fAd K d_touch_text.at_) p_touch_text (sp_touch_text K) :=
  def_ok T 19 rfl rfl sc_touch_text (fun _ _ _ _ _ _ us hl => match us, hl with | [_, _, _], _ => rfl) len_touch_text (der_touch_text T F_subscript_text) vc_touch_text
theorem len_nest_text {K : PySem.W.Frag} : ∀ ds μ P, sp_nest_text K ds μ P → ds.length = p_nest_text.length := by
  rintro ds μ P ⟨_, _, rfl, _⟩
  rfl
theorem ok_nest_text (T : Tp facts defs exOk K mg) (F_touch_text : GDef Pg w K mg base k_touch_text (He.fAd K d_touch_text.at_) p_touch_text (sp_touch_text K)) : GDef Pg w K mg base k_nest_text (He.fAd K d_nest_text.at_) p_nest_text (sp_nest_text K) :=
  def_okF T 20 rfl rfl sc_nest_text (fun _ _ _ _ _ _ us hl => match us, hl with | [_, _], _ => rfl) len_nest_text (der_nest_text T F_touch_text) vc_nest_text
theorem len_Nest_init {K : PySem.W.Frag} : ∀ ds μ P, sp_Nest_init K ds μ P → ds.length = p_Nest_init.length := by
  rintro ds μ P ⟨_, _, _, rfl, _⟩
  rfl
theorem ok_Nest_init (T : Tp facts defs exOk K mg) (F_nest_text : GDef Pg w K mg base k_nest_text (He.fAd K d_nest_text.at_) p_nest_text (sp_nest_text K)) (F_look_at_touches : GDef Pg w K mg base k_look_at_touches (He.fAd K d_look_at_touches.at_) p_look_at_touches (sp_look_at_touches K)) (F_look_at_counters : GDef Pg w K mg base k_look_at_counters (He.fAd K d_look_at_counters.at_) p_look_at_counters (sp_look_at_counters K)) : GDef Pg w K mg base k_Nest_init (He.fAd K d_Nest_init.at_) p_Nest_init (sp_Nest_init K) :=
  def_okF T 21 rfl rfl sc_Nest_init (fun _ _ _ _ _ _ us hl => match us, hl with | [_, _, _], _ => rfl) len_Nest_init (der_Nest_init T F_nest_text F_look_at_touches F_look_at_counters) vc_Nest_init
theorem len_Nest_eq {K : PySem.W.Frag} : ∀ ds μ P, sp_Nest_eq K ds μ P → ds.length = p_Nest_eq.length := by
  rintro ds μ P ⟨_, _, rfl, _⟩
  rfl
theorem ok_Nest_eq (T : Tp facts defs exOk K mg)  : GDef Pg w K mg base k_Nest_eq (He.fAd K d_Nest_eq.at_) p_Nest_eq (sp_Nest_eq K) :=
  def_ok T 22 rfl rfl sc_Nest_eq (fun _ _ _ _ _ _ us hl => match us, hl with | [_, _], _ => rfl) len_Nest_eq (der_Nest_eq T ) vc_Nest_eq
theorem len__law_copied {K : PySem.W.Frag} : ∀ ds μ P, sp__law_copied K ds μ P → ds.length = p__law_copied.length := by
  rintro ds μ P ⟨_, _, rfl, _⟩
  rfl
theorem ok__law_copied (T : Tp facts defs exOk K mg) (F_Nest_init : GDef Pg w K mg base k_Nest_init (He.fAd K d_Nest_init.at_) p_Nest_init (sp_Nest_init K)) : GDef Pg w K mg base k__law_copied (He.fAd K d__law_copied.at_) p__law_copied (sp__law_copied K) :=
  def_ok T 23 rfl rfl sc__law_copied (fun _ _ _ _ _ _ us hl => match us, hl with | [_], _ => rfl) len__law_copied (der__law_copied T F_Nest_init) vc__law_copied
theorem len__law_points {K : PySem.W.Frag} : ∀ ds μ P, sp__law_points K ds μ P → ds.length = p__law_points.length := by
  rintro ds μ P ⟨_, _, _, rfl, _⟩
  rfl
theorem ok__law_points (T : Tp facts defs exOk K mg) (F__law_of : GDef Pg w K mg base k__law_of (He.fAd K d__law_of.at_) p__law_of (sp__law_of K)) : GDef Pg w K mg base k__law_points (He.fAd K d__law_points.at_) p__law_points (sp__law_points K) :=
  def_ok T 24 rfl rfl sc__law_points (fun _ _ _ _ _ _ us hl => match us, hl with | [_, _, _], _ => rfl) len__law_points (der__law_points T F__law_of) vc__law_points
theorem len__law_basis {K : PySem.W.Frag} : ∀ ds μ P, sp__law_basis K ds μ P → ds.length = p__law_basis.length := by
  rintro ds μ P ⟨_, _, _, rfl, _⟩
  rfl
theorem ok__law_basis (T : Tp facts defs exOk K mg) (F__law_of : GDef Pg w K mg base k__law_of (He.fAd K d__law_of.at_) p__law_of (sp__law_of K)) (F__law_draw : GDef Pg w K mg base k__law_draw (He.fAd K d__law_draw.at_) p__law_draw (sp__law_draw K)) (F__law_units : GDef Pg w K mg base k__law_units (He.fAd K d__law_units.at_) p__law_units (sp__law_units K)) : GDef Pg w K mg base k__law_basis (He.fAd K d__law_basis.at_) p__law_basis (sp__law_basis K) :=
  def_okF T 25 rfl rfl sc__law_basis (fun _ _ _ _ _ _ us hl => match us, hl with | [_, _, _], _ => rfl) len__law_basis (der__law_basis T F__law_of F__law_draw F__law_units) vc__law_basis
theorem len__law_undone {K : PySem.W.Frag} : ∀ ds μ P, sp__law_undone K ds μ P → ds.length = p__law_undone.length := by
  rintro ds μ P ⟨_, _, rfl, _⟩
  rfl
theorem ok__law_undone (T : Tp facts defs exOk K mg)  : GDef Pg w K mg base k__law_undone (He.fAd K d__law_undone.at_) p__law_undone (sp__law_undone K) :=
  def_okF T 26 rfl rfl sc__law_undone (fun _ _ _ _ _ _ us hl => match us, hl with | [_], _ => rfl) len__law_undone (der__law_undone T ) vc__law_undone
theorem len__law_place {K : PySem.W.Frag} : ∀ ds μ P, sp__law_place K ds μ P → ds.length = p__law_place.length := by
  rintro ds μ P ⟨_, _, _, rfl, _⟩
  rfl
theorem ok__law_place (T : Tp facts defs exOk K mg)  : GDef Pg w K mg base k__law_place (He.fAd K d__law_place.at_) p__law_place (sp__law_place K) :=
  def_ok T 27 rfl rfl sc__law_place (fun _ _ _ _ _ _ us hl => match us, hl with | [_, _], _ => rfl) len__law_place (der__law_place T ) vc__law_place
theorem len__law_home {K : PySem.W.Frag} : ∀ ds μ P, sp__law_home K ds μ P → ds.length = p__law_home.length := by
  rintro ds μ P ⟨_, _, rfl, _⟩
  rfl
theorem ok__law_home (T : Tp facts defs exOk K mg)  : GDef Pg w K mg base k__law_home (He.fAd K d__law_home.at_) p__law_home (sp__law_home K) :=
  def_ok T 28 rfl rfl sc__law_home (fun _ _ _ _ _ _ us hl => match us, hl with | [_, _], _ => rfl) len__law_home (der__law_home T ) vc__law_home
theorem len__law_parts {K : PySem.W.Frag} : ∀ ds μ P, sp__law_parts K ds μ P → ds.length = p__law_parts.length := by
  rintro ds μ P ⟨_, _, _, _, rfl, _⟩
  rfl
theorem ok__law_parts (T : Tp facts defs exOk K mg) (F__law_home : GDef Pg w K mg base k__law_home (He.fAd K d__law_home.at_) p__law_home (sp__law_home K)) (F__law_place : GDef Pg w K mg base k__law_place (He.fAd K d__law_place.at_) p__law_place (sp__law_place K)) : GDef Pg w K mg base k__law_parts (He.fAd K d__law_parts.at_) p__law_parts (sp__law_parts K) :=
  def_okF T 29 rfl rfl sc__law_parts (fun _ _ _ _ _ _ us hl => match us, hl with | [_, _, _], _ => rfl) len__law_parts (der__law_parts T F__law_home F__law_place) vc__law_parts
theorem len__law_other {K : PySem.W.Frag} : ∀ ds μ P, sp__law_other K ds μ P → ds.length = p__law_other.length := by
  rintro ds μ P ⟨_, _, _, _, rfl, _⟩
  rfl
theorem ok__law_other (T : Tp facts defs exOk K mg) (F__law_draw : GDef Pg w K mg base k__law_draw (He.fAd K d__law_draw.at_) p__law_draw (sp__law_draw K)) : GDef Pg w K mg base k__law_other (He.fAd K d__law_other.at_) p__law_other (sp__law_other K) :=
  def_ok T 30 rfl rfl sc__law_other (fun _ _ _ _ _ _ us hl => match us, hl with | [_, _], _ => rfl) len__law_other (der__law_other T F__law_draw) vc__law_other
theorem len_row_text {K : PySem.W.Frag} : ∀ ds μ P, sp_row_text K ds μ P → ds.length = p_row_text.length := by
  rintro ds μ P ⟨_, rfl, _⟩
  rfl
theorem ok_row_text (T : Tp facts defs exOk K mg) (F_integer_text : GDef Pg w K mg base k_integer_text (He.fAd K d_integer_text.at_) p_integer_text (sp_integer_text K)) : GDef Pg w K mg base k_row_text (He.fAd K d_row_text.at_) p_row_text (sp_row_text K) :=
  def_ok T 31 rfl rfl sc_row_text (fun _ _ _ _ _ _ us hl => match us, hl with | [_], _ => rfl) len_row_text (der_row_text T F_integer_text) vc_row_text
theorem len_rows_text {K : PySem.W.Frag} : ∀ ds μ P, sp_rows_text K ds μ P → ds.length = p_rows_text.length := by
  rintro ds μ P ⟨_, rfl, _⟩
  rfl
theorem ok_rows_text (T : Tp facts defs exOk K mg) (F_row_text : GDef Pg w K mg base k_row_text (He.fAd K d_row_text.at_) p_row_text (sp_row_text K)) : GDef Pg w K mg base k_rows_text (He.fAd K d_rows_text.at_) p_rows_text (sp_rows_text K) :=
  def_ok T 32 rfl rfl sc_rows_text (fun _ _ _ _ _ _ us hl => match us, hl with | [_], _ => rfl) len_rows_text (der_rows_text T F_row_text) vc_rows_text
theorem len_Lot_init {K : PySem.W.Frag} : ∀ ds μ P, sp_Lot_init K ds μ P → ds.length = p_Lot_init.length := by
  rintro ds μ P ⟨_, _, _, _, _, rfl, _⟩
  rfl
theorem ok_Lot_init (T : Tp facts defs exOk K mg) (F_rows_text : GDef Pg w K mg base k_rows_text (He.fAd K d_rows_text.at_) p_rows_text (sp_rows_text K)) : GDef Pg w K mg base k_Lot_init (He.fAd K d_Lot_init.at_) p_Lot_init (sp_Lot_init K) :=
  def_ok T 33 rfl rfl sc_Lot_init (fun _ _ _ _ _ _ us hl => match us, hl with | [_, _, _], _ => rfl) len_Lot_init (der_Lot_init T F_rows_text) vc_Lot_init
theorem len_Lot_points {K : PySem.W.Frag} : ∀ ds μ P, sp_Lot_points K ds μ P → ds.length = p_Lot_points.length := by
  rintro ds μ P ⟨_, _, rfl, _⟩
  rfl
theorem ok_Lot_points (T : Tp facts defs exOk K mg)  : GDef Pg w K mg base k_Lot_points (He.fAd K d_Lot_points.at_) p_Lot_points (sp_Lot_points K) :=
  def_ok T 34 rfl rfl sc_Lot_points (fun _ _ _ _ _ _ us hl => match us, hl with | [_], _ => rfl) len_Lot_points (der_Lot_points T ) vc_Lot_points
theorem len_look_alike {K : PySem.W.Frag} : ∀ ds μ P, sp_look_alike K ds μ P → ds.length = p_look_alike.length := by
  rintro ds μ P ⟨_, _, _, _, rfl, _⟩
  rfl
theorem ok_look_alike (T : Tp facts defs exOk K mg) (F_Nest_eq : GDef Pg w K mg base k_Nest_eq (He.fAd K d_Nest_eq.at_) p_Nest_eq (sp_Nest_eq K)) : GDef Pg w K mg base k_look_alike (He.fAd K d_look_alike.at_) p_look_alike (sp_look_alike K) :=
  def_ok T 35 rfl rfl sc_look_alike (fun _ _ _ _ _ _ us hl => match us, hl with | [_, _], _ => rfl) len_look_alike (der_look_alike T F_Nest_eq) vc_look_alike
theorem len_Lot_sub {K : PySem.W.Frag} : ∀ ds μ P, sp_Lot_sub K ds μ P → ds.length = p_Lot_sub.length := by
  rintro ds μ P ⟨_, _, _, _, _, rfl, _⟩
  rfl
theorem ok_Lot_sub (T : Tp facts defs exOk K mg) (F_Lot_init : GDef Pg w K mg base k_Lot_init (He.fAd K d_Lot_init.at_) p_Lot_init (sp_Lot_init K)) (F_look_alike : GDef Pg w K mg base k_look_alike (He.fAd K d_look_alike.at_) p_look_alike (sp_look_alike K)) : GDef Pg w K mg base k_Lot_sub (He.fAd K d_Lot_sub.at_) p_Lot_sub (sp_Lot_sub K) :=
  def_ok T 36 rfl rfl sc_Lot_sub (fun _ _ _ _ _ _ us hl => match us, hl with | [_, _], _ => rfl) len_Lot_sub (der_Lot_sub T F_Lot_init F_look_alike) vc_Lot_sub
theorem len_Lot_and {K : PySem.W.Frag} : ∀ ds μ P, sp_Lot_and K ds μ P → ds.length = p_Lot_and.length := by
  rintro ds μ P ⟨_, _, _, _, _, rfl, _⟩
  rfl
theorem ok_Lot_and (T : Tp facts defs exOk K mg) (F_Lot_init : GDef Pg w K mg base k_Lot_init (He.fAd K d_Lot_init.at_) p_Lot_init (sp_Lot_init K)) (F_look_alike : GDef Pg w K mg base k_look_alike (He.fAd K d_look_alike.at_) p_look_alike (sp_look_alike K)) : GDef Pg w K mg base k_Lot_and (He.fAd K d_Lot_and.at_) p_Lot_and (sp_Lot_and K) :=
  def_ok T 37 rfl rfl sc_Lot_and (fun _ _ _ _ _ _ us hl => match us, hl with | [_, _], _ => rfl) len_Lot_and (der_Lot_and T F_Lot_init F_look_alike) vc_Lot_and
theorem len_determinant {K : PySem.W.Frag} : ∀ ds μ P, sp_determinant K ds μ P → ds.length = p_determinant.length := by
  rintro ds μ P ⟨_, _, rfl, _⟩
  rfl
theorem ok_determinant (T : Tp facts defs exOk K mg)  : GDef Pg w K mg base k_determinant (He.fAd K d_determinant.at_) p_determinant (sp_determinant K) :=
  def_ok T 38 rfl rfl sc_determinant (fun _ _ _ _ _ _ us hl => match us, hl with | [_], _ => rfl) len_determinant (der_determinant T ) vc_determinant
theorem len_is_basis {K : PySem.W.Frag} : ∀ ds μ P, sp_is_basis K ds μ P → ds.length = p_is_basis.length := by
  rintro ds μ P ⟨_, _, rfl, _⟩
  rfl
theorem ok_is_basis (T : Tp facts defs exOk K mg) (F_determinant : GDef Pg w K mg base k_determinant (He.fAd K d_determinant.at_) p_determinant (sp_determinant K)) : GDef Pg w K mg base k_is_basis (He.fAd K d_is_basis.at_) p_is_basis (sp_is_basis K) :=
  def_ok T 39 rfl rfl sc_is_basis (fun _ _ _ _ _ _ us hl => match us, hl with | [_, _], _ => rfl) len_is_basis (der_is_basis T F_determinant) vc_is_basis
theorem len_check_sides {K : PySem.W.Frag} : ∀ ds μ P, sp_check_sides K ds μ P → ds.length = p_check_sides.length := by
  rintro ds μ P ⟨_, _, rfl, _⟩
  rfl
theorem ok_check_sides (T : Tp facts defs exOk K mg)  : GDef Pg w K mg base k_check_sides (He.fAd K d_check_sides.at_) p_check_sides (sp_check_sides K) :=
  def_ok T 40 rfl rfl sc_check_sides (fun _ _ _ _ _ _ us hl => match us, hl with | [_, _, _], _ => rfl) len_check_sides (der_check_sides T ) vc_check_sides
theorem len_unit_rows {K : PySem.W.Frag} : ∀ ds μ P, sp_unit_rows K ds μ P → ds.length = p_unit_rows.length := by
  rintro ds μ P ⟨_, rfl, _⟩
  rfl
theorem ok_unit_rows (T : Tp facts defs exOk K mg)  : GDef Pg w K mg base k_unit_rows (He.fAd K d_unit_rows.at_) p_unit_rows (sp_unit_rows K) :=
  def_ok T 41 rfl rfl sc_unit_rows (fun _ _ _ _ _ _ us hl => match us, hl with | [_], _ => rfl) len_unit_rows (der_unit_rows T ) vc_unit_rows
theorem len_moved {K : PySem.W.Frag} : ∀ ds μ P, sp_moved K ds μ P → ds.length = p_moved.length := by
  rintro ds μ P ⟨_, _, _, rfl, _⟩
  rfl
theorem ok_moved (T : Tp facts defs exOk K mg)  : GDef Pg w K mg base k_moved (He.fAd K d_moved.at_) p_moved (sp_moved K) :=
  def_ok T 42 rfl rfl sc_moved (fun _ _ _ _ _ _ us hl => match us, hl with | [_, _, _], _ => rfl) len_moved (der_moved T ) vc_moved
theorem len_bring_least {K : PySem.W.Frag} : ∀ ds μ P, sp_bring_least K ds μ P → ds.length = p_bring_least.length := by
  rintro ds μ P ⟨_, _, _, _, rfl, _⟩
  rfl
theorem ok_bring_least (T : Tp facts defs exOk K mg)  : GDef Pg w K mg base k_bring_least (He.fAd K d_bring_least.at_) p_bring_least (sp_bring_least K) :=
  def_ok T 43 rfl rfl sc_bring_least (fun _ _ _ _ _ _ us hl => match us, hl with | [_, _], _ => rfl) len_bring_least (der_bring_least T ) vc_bring_least
theorem len_settle {K : PySem.W.Frag} : ∀ ds μ P, sp_settle K ds μ P → ds.length = p_settle.length := by
  rintro ds μ P ⟨_, _, _, _, _, rfl, _⟩
  rfl
theorem ok_settle (T : Tp facts defs exOk K mg) (F_moved : GDef Pg w K mg base k_moved (He.fAd K d_moved.at_) p_moved (sp_moved K)) (F_bring_least : GDef Pg w K mg base k_bring_least (He.fAd K d_bring_least.at_) p_bring_least (sp_bring_least K)) : GDef Pg w K mg base k_settle (He.fAd K d_settle.at_) p_settle (sp_settle K) :=
  def_ok T 44 rfl rfl sc_settle (fun _ _ _ _ _ _ us hl => match us, hl with | [_, _], _ => rfl) len_settle (der_settle T F_moved F_bring_least) vc_settle
theorem len_dual_rows {K : PySem.W.Frag} : ∀ ds μ P, sp_dual_rows K ds μ P → ds.length = p_dual_rows.length := by
  rintro ds μ P ⟨_, _, rfl, _⟩
  rfl
theorem ok_dual_rows (T : Tp facts defs exOk K mg) (F_settle : GDef Pg w K mg base k_settle (He.fAd K d_settle.at_) p_settle (sp_settle K)) (F_unit_rows : GDef Pg w K mg base k_unit_rows (He.fAd K d_unit_rows.at_) p_unit_rows (sp_unit_rows K)) : GDef Pg w K mg base k_dual_rows (He.fAd K d_dual_rows.at_) p_dual_rows (sp_dual_rows K) :=
  def_okF T 45 rfl rfl sc_dual_rows (fun _ _ _ _ _ _ us hl => match us, hl with | [_], _ => rfl) len_dual_rows (der_dual_rows T F_settle F_unit_rows) vc_dual_rows
theorem len_Block_init {K : PySem.W.Frag} : ∀ ds μ P, sp_Block_init K ds μ P → ds.length = p_Block_init.length := by
  rintro ds μ P ⟨_, _, _, _, _, rfl, _⟩
  rfl
theorem ok_Block_init (T : Tp facts defs exOk K mg) (F_dual_rows : GDef Pg w K mg base k_dual_rows (He.fAd K d_dual_rows.at_) p_dual_rows (sp_dual_rows K)) (F_check_sides : GDef Pg w K mg base k_check_sides (He.fAd K d_check_sides.at_) p_check_sides (sp_check_sides K)) (F_is_basis : GDef Pg w K mg base k_is_basis (He.fAd K d_is_basis.at_) p_is_basis (sp_is_basis K)) : GDef Pg w K mg base k_Block_init (He.fAd K d_Block_init.at_) p_Block_init (sp_Block_init K) :=
  def_ok T 46 rfl rfl sc_Block_init (fun _ _ _ _ _ _ us hl => match us, hl with | [_, _, _, _], _ => rfl) len_Block_init (der_Block_init T F_dual_rows F_check_sides F_is_basis) vc_Block_init
theorem len_Block_sides {K : PySem.W.Frag} : ∀ ds μ P, sp_Block_sides K ds μ P → ds.length = p_Block_sides.length := by
  rintro ds μ P ⟨_, _, _, _, rfl, _⟩
  rfl
theorem ok_Block_sides (T : Tp facts defs exOk K mg)  : GDef Pg w K mg base k_Block_sides (He.fAd K d_Block_sides.at_) p_Block_sides (sp_Block_sides K) :=
  def_ok T 47 rfl rfl sc_Block_sides (fun _ _ _ _ _ _ us hl => match us, hl with | [_], _ => rfl) len_Block_sides (der_Block_sides T ) vc_Block_sides
theorem len_dot {K : PySem.W.Frag} : ∀ ds μ P, sp_dot K ds μ P → ds.length = p_dot.length := by
  rintro ds μ P ⟨_, _, rfl, _⟩
  rfl
theorem ok_dot (T : Tp facts defs exOk K mg)  : GDef Pg w K mg base k_dot (He.fAd K d_dot.at_) p_dot (sp_dot K) :=
  def_ok T 48 rfl rfl sc_dot (fun _ _ _ _ _ _ us hl => match us, hl with | [_, _], _ => rfl) len_dot (der_dot T ) vc_dot
theorem len_Block_place {K : PySem.W.Frag} : ∀ ds μ P, sp_Block_place K ds μ P → ds.length = p_Block_place.length := by
  rintro ds μ P ⟨_, _, _, _, _, _, rfl, _⟩
  rfl
theorem ok_Block_place (T : Tp facts defs exOk K mg) (F_dot : GDef Pg w K mg base k_dot (He.fAd K d_dot.at_) p_dot (sp_dot K)) : GDef Pg w K mg base k_Block_place (He.fAd K d_Block_place.at_) p_Block_place (sp_Block_place K) :=
  def_ok T 49 rfl rfl sc_Block_place (fun _ _ _ _ _ _ us hl => match us, hl with | [_, _], _ => rfl) len_Block_place (der_Block_place T F_dot) vc_Block_place
theorem len_Block_home {K : PySem.W.Frag} : ∀ ds μ P, sp_Block_home K ds μ P → ds.length = p_Block_home.length := by
  rintro ds μ P ⟨_, _, _, _, _, _, rfl, _⟩
  rfl
theorem ok_Block_home (T : Tp facts defs exOk K mg) (F_Block_place : GDef Pg w K mg base k_Block_place (He.fAd K d_Block_place.at_) p_Block_place (sp_Block_place K)) : GDef Pg w K mg base k_Block_home (He.fAd K d_Block_home.at_) p_Block_home (sp_Block_home K) :=
  def_ok T 50 rfl rfl sc_Block_home (fun _ _ _ _ _ _ us hl => match us, hl with | [_, _], _ => rfl) len_Block_home (der_Block_home T F_Block_place) vc_Block_home
theorem len_parts {K : PySem.W.Frag} : ∀ ds μ P, sp_parts K ds μ P → ds.length = p_parts.length := by
  rintro ds μ P ⟨_, _, _, _, _, _, _, rfl, _⟩
  rfl
theorem ok_parts (T : Tp facts defs exOk K mg) (F_Lot_points : GDef Pg w K mg base k_Lot_points (He.fAd K d_Lot_points.at_) p_Lot_points (sp_Lot_points K)) (F_Block_place : GDef Pg w K mg base k_Block_place (He.fAd K d_Block_place.at_) p_Block_place (sp_Block_place K)) (F_Block_sides : GDef Pg w K mg base k_Block_sides (He.fAd K d_Block_sides.at_) p_Block_sides (sp_Block_sides K)) (F_Nest_eq : GDef Pg w K mg base k_Nest_eq (He.fAd K d_Nest_eq.at_) p_Nest_eq (sp_Nest_eq K)) : GDef Pg w K mg base k_parts (He.fAd K d_parts.at_) p_parts (sp_parts K) :=
  def_okF T 51 rfl rfl sc_parts (fun _ _ _ _ _ _ us hl => match us, hl with | [_, _], _ => rfl) len_parts (der_parts T F_Lot_points F_Block_place F_Block_sides F_Nest_eq) vc_parts
theorem len__law_places_told {K : PySem.W.Frag} : ∀ ds μ P, sp__law_places_told K ds μ P → ds.length = p__law_places_told.length := by
  rintro ds μ P ⟨_, _, _, _, _, _, rfl, _⟩
  rfl
theorem ok__law_places_told (T : Tp facts defs exOk K mg) (F__law_same : GDef Pg w K mg base k__law_same (He.fAd K d__law_same.at_) p__law_same (sp__law_same K)) (F__law_place : GDef Pg w K mg base k__law_place (He.fAd K d__law_place.at_) p__law_place (sp__law_place K)) (F_Block_place : GDef Pg w K mg base k_Block_place (He.fAd K d_Block_place.at_) p_Block_place (sp_Block_place K)) (F_Block_home : GDef Pg w K mg base k_Block_home (He.fAd K d_Block_home.at_) p_Block_home (sp_Block_home K)) : GDef Pg w K mg base k__law_places_told (He.fAd K d__law_places_told.at_) p__law_places_told (sp__law_places_told K) :=
  def_ok T 52 rfl rfl sc__law_places_told (fun _ _ _ _ _ _ us hl => match us, hl with | [_, _, _], _ => rfl) len__law_places_told (der__law_places_told T F__law_same F__law_place F_Block_place F_Block_home) vc__law_places_told
/-- equal values, level by level -/
theorem same_lev (T : Tp facts defs exOk K mg) : ∀ n : Nat, GDef Pg w K mg base n (He.fAd K d__law_same.at_) p__law_same (spSame n)
  | 0 => by
    obtain ⟨fd, F⟩ := T.says.def_ 4 (d := d__law_same) rfl
    refine ⟨⟨fd, ⟨fun vs H Q E h => ?_, fun A outer s H args us vs Q E _ _ _ _ h => ?_⟩, FunD.bindsN F (fun _ _ _ _ _ _ us hl => match us, hl with | [_, _], _ => rfl)⟩, F.kp⟩
    · obtain ⟨_, _, _, _, _, _, h, _⟩ := h
      exact h.elim
    · obtain ⟨_, _, _, _, _, _, h, _⟩ := h
      exact h.elim
  | n + 1 => def_ok T 4 rfl rfl sc__law_same (fun _ _ _ _ _ _ us hl => match us, hl with | [_, _], _ => rfl) (len__law_same (K := K) (n + 1)) (der__law_same T (same_lev T n)) (vc__law_same n)
def rcond (K : PySem.W.Frag) : WT := (wNot (wTest (wOp (gOwn (He.ga K ("Nest" : Str)) (sp_Nest_eq K)) (wFld (He.ga K ("Lot" : Str)) ("nest" : Str) (wVar 0)) (wFld (He.ga K ("Block" : Str)) ("nest" : Str) (wVar 1)))))
theorem rr_cond {ds : List D} {μ : Mu} (h : rrParts K ds) : rcond K (startD N_parts.length ds) μ (fun b μ' => b = true ∧ μ' = μ) := by
  obtain ⟨n, m, pts, rows, sides, inv, rfl, ne⟩ := h
  unfold rcond
  have el : lotI K n pts = .ins (aLot K) (lotF K n pts) := rfl
  have eb : blockI K m rows sides inv = .ins (aBlock K) (blockF K m rows sides inv) := rfl
  simp! only [gOwn, el, eb, lot_nest, block_nest]
  refine ⟨_, rfl, _, rfl, n, m, rfl, _, rfl, ?_⟩
  simp [ne]
theorem raise_parts (T : Tp facts defs exOk K mg) (F_Nest_eq : GDef PW w K mg base k_Nest_eq (He.fAd K d_Nest_eq.at_) p_Nest_eq (sp_Nest_eq K)) :
    ∃ fd, FnOk PW w K mg base (CX PW w) k_parts (He.fAd K d_parts.at_) fd p_parts (liftR K (aOth K) "code" "OtherNest" (rrParts K)) ∧ L2.Binds K fd p_parts [] := by
  obtain ⟨fI, cc, cda, fd0, S⟩ := (more_oth T).sup
  exact def_raise (k := 1) T 51 rfl rfl sc_parts (fun _ _ _ _ _ _ us hl => match us, hl with | [_, _], _ => rfl) (fun ds h => by
    obtain ⟨n, m, pts, rows, sides, inv, rfl, ne⟩ := h
    rfl) (wc := rcond K) (fun cdv A outer s H E hr => (dt_not (dt_eqOwn F_Nest_eq (hr.mono (by decide)) (T.meth 58) (de_fld (dv 0) (T.cls 53) (T.noat 57)) (de_fld (dv 1) (T.cls 68) (T.noat 73))))) rfl (more_oth T).oex S (by decide +kernel) (T.free 82) rfl (T.glo 81) rfl (fun ds μ h => rr_cond h)
theorem law_body (T : Tp facts defs exOk K mg) {c P : Addr} (TB : LamX.TabB base mg c P) : ∀ (A : Around) (outer : List PySem.Env) (s : Shared) (H : Hp) (E : XK), Room 8 (A.deeper (envOfC d_law.qual d_law.scope s.heap.objs.size (He.fAd K d_law.at_) (.ref c))) →
    PSs (cxOf CX0 PW w K mg base N_law d_law.qual d_law.scope (He.fAd K d_law.at_) (.ref c) A outer s H E).nox d_law.body (t_law K P) := by
  have F__law_same : GDef PW w K mg base k__law_same (He.fAd K d__law_same.at_) p__law_same (sp__law_same K) := same_lev T 7
  have F_Lot_points := ok_Lot_points (Pg := PW) (w := w) (base := base) T 
  have F_dot := ok_dot (Pg := PW) (w := w) (base := base) T 
  have F_Block_place := ok_Block_place (Pg := PW) (w := w) (base := base) T F_dot
  have F_Block_sides := ok_Block_sides (Pg := PW) (w := w) (base := base) T 
  have F_Nest_eq := ok_Nest_eq (Pg := PW) (w := w) (base := base) T 
  have F_parts := ok_parts (Pg := PW) (w := w) (base := base) T F_Lot_points F_Block_place F_Block_sides F_Nest_eq
  have F__law_bag := ok__law_bag (Pg := PW) (w := w) (base := base) T 
  have F__law_draw := ok__law_draw (Pg := PW) (w := w) (base := base) T 
  have F__law_of := ok__law_of (Pg := PW) (w := w) (base := base) T F__law_draw
  have F__law_array := ok__law_array (Pg := PW) (w := w) (base := base) T F__law_of
  have F__law_dressed := ok__law_dressed (Pg := PW) (w := w) (base := base) T F__law_of F__law_draw F__law_array
  have F__law_names := ok__law_names (Pg := PW) (w := w) (base := base) T F__law_of
  have F__law_nest := ok__law_nest (Pg := PW) (w := w) (base := base) T F__law_dressed F__law_names
  have F__law_row := ok__law_row (Pg := PW) (w := w) (base := base) T F__law_of F__law_draw
  have F__law_matrices := ok__law_matrices (Pg := PW) (w := w) (base := base) T F__law_of F__law_row
  have F__law_units := ok__law_units (Pg := PW) (w := w) (base := base) T 
  have F__law_basis := ok__law_basis (Pg := PW) (w := w) (base := base) T F__law_of F__law_draw F__law_units
  have F__law_undone := ok__law_undone (Pg := PW) (w := w) (base := base) T 
  have F__law_points := ok__law_points (Pg := PW) (w := w) (base := base) T F__law_of
  have F__law_home := ok__law_home (Pg := PW) (w := w) (base := base) T 
  have F__law_place := ok__law_place (Pg := PW) (w := w) (base := base) T 
  have F__law_parts := ok__law_parts (Pg := PW) (w := w) (base := base) T F__law_home F__law_place
  have F__law_pick := ok__law_pick (Pg := PW) (w := w) (base := base) T F__law_draw
  have F_integer_text := ok_integer_text (Pg := PW) (w := w) (base := base) T 
  have F_row_text := ok_row_text (Pg := PW) (w := w) (base := base) T F_integer_text
  have F_rows_text := ok_rows_text (Pg := PW) (w := w) (base := base) T F_row_text
  have F_Lot_init := ok_Lot_init (Pg := PW) (w := w) (base := base) T F_rows_text
  have F_subscript_text := ok_subscript_text (Pg := PW) (w := w) (base := base) T F_integer_text
  have F_touch_text := ok_touch_text (Pg := PW) (w := w) (base := base) T F_subscript_text
  have F_nest_text := ok_nest_text (Pg := PW) (w := w) (base := base) T F_touch_text
  have F_is_array_name := ok_is_array_name (Pg := PW) (w := w) (base := base) T 
  have F_look_at_touches := ok_look_at_touches (Pg := PW) (w := w) (base := base) T F_is_array_name
  have F_is_counter_name := ok_is_counter_name (Pg := PW) (w := w) (base := base) T 
  have F_counters_fault := ok_counters_fault (Pg := PW) (w := w) (base := base) T F_is_counter_name
  have F_look_at_counters := ok_look_at_counters (Pg := PW) (w := w) (base := base) T F_counters_fault
  have F_Nest_init := ok_Nest_init (Pg := PW) (w := w) (base := base) T F_nest_text F_look_at_touches F_look_at_counters
  have F__law_copied := ok__law_copied (Pg := PW) (w := w) (base := base) T F_Nest_init
  have F_moved := ok_moved (Pg := PW) (w := w) (base := base) T 
  have F_bring_least := ok_bring_least (Pg := PW) (w := w) (base := base) T 
  have F_settle := ok_settle (Pg := PW) (w := w) (base := base) T F_moved F_bring_least
  have F_unit_rows := ok_unit_rows (Pg := PW) (w := w) (base := base) T 
  have F_dual_rows := ok_dual_rows (Pg := PW) (w := w) (base := base) T F_settle F_unit_rows
  have F_check_sides := ok_check_sides (Pg := PW) (w := w) (base := base) T 
  have F_determinant := ok_determinant (Pg := PW) (w := w) (base := base) T 
  have F_is_basis := ok_is_basis (Pg := PW) (w := w) (base := base) T F_determinant
  have F_Block_init := ok_Block_init (Pg := PW) (w := w) (base := base) T F_dual_rows F_check_sides F_is_basis
  have F_Block_home := ok_Block_home (Pg := PW) (w := w) (base := base) T F_Block_place
  have F__law_places_told := ok__law_places_told (Pg := PW) (w := w) (base := base) T F__law_same F__law_place F_Block_place F_Block_home
  have F_look_alike := ok_look_alike (Pg := PW) (w := w) (base := base) T F_Nest_eq
  have F_Lot_sub := ok_Lot_sub (Pg := PW) (w := w) (base := base) T F_Lot_init F_look_alike
  have F_Lot_and := ok_Lot_and (Pg := PW) (w := w) (base := base) T F_Lot_init F_look_alike
  have F__law_other := ok__law_other (Pg := PW) (w := w) (base := base) T F__law_draw
  obtain ⟨fdp, Rp⟩ := raise_parts (w := w) (base := base) T F_Nest_eq
  have FK_parts : KDef PW w K mg base k_parts (He.fAd K d_parts.at_) p_parts (p_parts.drop 1) (sp_parts K) :=
    def_okK T 51 rfl rfl sc_parts (fun _ _ _ _ _ _ _ _ => rfl) len_parts (der_parts T F_Lot_points F_Block_place F_Block_sides F_Nest_eq) vc_parts
  exact der_law T F__law_same F_parts F__law_bag F__law_of F__law_nest F__law_matrices F__law_draw F__law_basis F__law_undone F__law_points F__law_parts F__law_pick F_Lot_init F__law_copied F_Block_init F__law_places_told F_Lot_sub F_Lot_and F__law_other FK_parts Rp TB
end
end K80
set_option maxHeartbeats 0
/-! K80Fn -/
namespace K80
open PySem PySem.Spec PyProof.Rows L2 L3
/-! ### law's promise -/
def spLaw (K : PySem.W.Frag) (P : Addr) : Sp := fun vs H Q _ => ∃ (a : Addr) (ns : List Int), vs = [.ref a] ∧ SqL K H a (ns.map V.int) ∧ H P = some (.tbl #[]) ∧ ∀ H', Q (.bl true) H'
theorem law_reads {K : PySem.W.Frag} {P : Addr} {vs : List V} {H : Hp} {Q : VK} {E : XK} (h : spLaw K P vs H Q E) : t_law K P { nx := fun _ H' => Q .non H', rt := Q } (L2.start N_law vs) H := by
  obtain ⟨a, ns, rfl, hS, hP, hQ⟩ := h
  have c0 : ConcM K H (fun _ => none) NoU := ⟨fun a o e => (by cases e), fun _ z => z.elim⟩
  have r0 : RepL K H (fun _ => none) NoU [V.ref a] [D.fz (ns.map D.int)] := .cons (.fz (hS.elim (fun h => .inl ⟨h, rfl, fun z => z⟩) .inr) (RepL.of_ints ns)) .nil
  have T0 : LamX.Tabs (lawT P) H := fun p hp => by
    rw [List.mem_singleton.mp hp]
    exact LamX.TabS.nil hP
  refine ⟨NoU, _, fun _ => none, { nx := fun δ _ => LawMid K δ, rt := fun _ _ => False }, c0, start_ok N_law r0, vc_law1 (fun δ μ h => h), fun σ' δ' H' μ' st c e mid => ?_, fun _ _ _ _ _ _ _ z => z.elim, fun _ _ z => z, fun _ _ z => z⟩
  obtain ⟨deep, n, m, rows, sides, inv, pts, pts2, gs, e13, e14, e22, e23, e10, ne, _⟩ := mid.ex
  refine ⟨δ', μ', _, _, tabs_step c0 st T0, c, e, e13, e22, ⟨n, m, _, _, _, _, rfl, fun z => ne z.symm⟩, fun H2 T2 c2 e2 => ?_⟩
  refine ⟨δ', μ', _, _, T2, c2, e2, e23, e14, ⟨m, n, _, _, _, _, rfl, ne⟩, fun H3 T3 c3 e3 => ?_⟩
  refine ⟨NoU, δ', μ', { nx := fun _ _ => False, rt := fun d _ => d = .bl true }, c3, e3, vc_law2 mid (fun _ => rfl), ⟨fun _ _ _ _ _ _ _ z => z.elim, fun v d H4 μ4 s4 c4 r4 z => ?_, fun _ _ _ _ _ _ _ z => z.elim, fun _ _ _ _ _ _ _ z => z.elim⟩⟩
  subst z
  cases r4
  exact hQ H4
theorem law_at {w : World} {mg : Str → Option Value} {f : Addr} {h : Heap} (Y : ∃ K : PySem.W.Frag, K.In h ∧ He.SaysX facts defs [] tf exOk w h K) (G : h.Ns mainGlobals mg) (hmg : mg ("law" : Str) = some (.ref f)) :
    ∃ K : PySem.W.Frag, K.In h ∧ LamX.LawAtS PySem.Challenge.rw_leastfetched_k80_whole_parts w K CX0 k_law 63 ("script" : Str) mg f h := by
  obtain ⟨K, KX, c⟩ := Y
  have T : Tp facts defs exOk K mg := ⟨says_d c, c.more, h, KX, G⟩
  obtain ⟨fd, F⟩ := T.says.def_ 54 (d := d_law) rfl
  have e := hmg.symm.trans (T.glo 83)
  cases e
  have hb : ∀ (s : Shared) (u : Value), BindsTo s fd ⟨[u], []⟩ [(("script" : Str), u)] := fun s u => FunD.bindsA (ps := [("script" : Str)]) F (fun _ _ _ _ _ _ us hl => match us, hl with | [_], _ => rfl) s [u] rfl
  obtain ⟨oc, od, dV, kV, doc, pm, an, cdv, ct, osl, e1, lk, hcd, hD, hK⟩ := F.ex
  obtain ⟨cc, e2⟩ := He.codeIn_ref hcd
  subst e2
  have ec : He.codeOf K (("law" : Str), none) = cc := He.codeOf_eq lk (by rw [e1])
  have hm : ((("law" : Str), none) : He.Defn) ∈ tf := List.mem_singleton_self _
  have t1 := c.empty _ hm
  have t2 := c.out _ hm
  have t3 := PySem.W.codeHd_of_K KX (c.hd _ hm)
  unfold He.cT at t1 t2 t3
  rw [ec] at t1 t2 t3
  subst e1
  refine ⟨K, KX, _, [(cc, He.tabOf K cc)], spLaw K (He.tabOf K cc), fun p hp => ?_, fun p hp => ?_, fun p hp => ?_, hb, fun H a ns _ _ hT hS => ⟨a, ns, rfl, hS, hT _ (List.mem_singleton_self _), fun _ => rfl⟩, fun base KB GB TB => ?_⟩
  · rw [List.mem_singleton.mp hp]; exact t1
  · rw [List.mem_singleton.mp hp]; exact t2
  · rw [List.mem_singleton.mp hp]; exact t3
  · refine fn_of lk hcd sc_law (fun vs H Q E h => ?_) fun A outer s H vs Q E hr hsp => ⟨t_law K (He.tabOf K cc), PSs.nox (law_body T (TB _ (List.mem_singleton_self _)) A outer s H E hr), law_reads hsp⟩
    obtain ⟨a, ns, rfl, _⟩ := h
    rfl
end K80
/-! XFin -/
namespace K80
open PySem PySem.Spec PyProof.Rows L2 L3
theorem run (w : World) : HandSHeadRun.RunEqI R vw hk ob 20000 loose w := three (run1 w) (run2 w) (run3 w)
end K80
open PySem PySem.W PySem.Calls PyProof.Rows
theorem PySem.Challenge.cw_leastfetched_k80_whole_parts_holds : PySem.Challenge.rw_leastfetched_k80_whole_parts.Holds := by
  w_on; o_law
  refine HandSHeadRun.head_imp (r := K80.R) (q := K80.vw) (H := K80.hk) (ob := K80.ob) (M := 20000) (loose := K80.loose) (d := HandSHeadRun.topDef K80.R.prog 99) (kwd := []) K80.ob_eq K80.run (by kernel_rfl) (by kernel_rfl) (by kernel_rfl) (by rfl) (by first | assumption | decide +kernel) (by decide +kernel) ⟨rfl, rfl, rfl, rfl, rfl, by decide +kernel⟩ ?hw ?hc
  case hw => w_witness2
  case hc =>
    refine LamX.walk_ofTsE (l := PySem.Challenge.rw_leastfetched_k80_whole_parts) (n := 63) (k := K80.k_law) (x := "script") (CX := fun _ => L2.CX0) rfl (by decide) (by kernel_rfl) ⟨rfl, by decide, by decide⟩ ?F (fun _ _ _ _ _ z => z)
    intro w mg fa h Y G hmg0
    have hmg : mg ("law" : PySem.Str) = some (.ref fa) := by
      have e : (HandSHeadRun.topDef K80.R.prog 99).name = ("law" : PySem.Str) := by kernel_rfl
      rw [← e]
      exact hmg0
    exact K80.law_at Y G hmg
