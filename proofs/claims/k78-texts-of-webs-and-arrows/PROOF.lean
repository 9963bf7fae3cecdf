import PyProof.Rows.All
import HandS.ForMost
import HandS.ForExc
import HandS.Walk
import HandS.Flow
import HandS.Style
import HandS.TupAny
import HandS.IsInst
import HandS.CallLocal
import HandS.DictComp
import HandS.Conv
import HandS.Small
import HandS.TryMany
import HandS.SetFor
import HandS.Strs
import KE.SortData
import KE.DataCmp
import PyProof.TupleOfSeq
import HandS.ExcValue
import HandS.ExcOwn
import HandS.ExcInit
import HandS.ExcField
import HandS.Zip
import HandS.RaiseMore
import HandS.Defaults
import HandS.Head0
import HandS.Head1
import HandS.Head2
import HandS.HeadEnd
import HandS.HeadHook1
import HandS.HeadHook2
import PySem.Challenge.RW_arrowsgoon_k78_whole_texts_of_webs_and_a
import KE.KStateDown
import HandS.Ends
import HandS.More
import HandS.Words
import HandS.WordsExc
set_option Elab.async false
set_option autoImplicit false
set_option linter.all false
set_option maxRecDepth 100000
/-! PL0: persistent data D, what of it stands in the heap (Rep), the store of things that change (Mu), the joint (HM). -/
namespace PL
open PySem PySem.Spec PyProof.Rows L2

/-- a value as data; ref: a thing that changes (in the store); fn: a def of the module; rd: a list that is only read -/
inductive D where
  | non | bl (b : Bool) | int (i : Int) | str (s : Str)
  | ref (a : Addr) | fn (x : Str)
  | tup (ds : List D) | lst (ds : List D) | rd (ds : List D)
  | dK (kvs : List (Key × D))
  deriving Inhabited

/-- a thing that changes -/
inductive MO where
  | lst (ds : List D) | dK (kvs : List (Key × D))
  deriving Inhabited
abbrev Mu := Addr → Option MO
def Mu.set (μ : Mu) (a : Addr) (m : MO) : Mu := fun b => if b = a then some m else μ b
theorem Mu.set_same {μ : Mu} {a : Addr} {m : MO} : μ.set a m a = some m := by unfold Mu.set; rw [if_pos rfl]
theorem Mu.set_ne {μ : Mu} {a b : Addr} {m : MO} (h : b ≠ a) : μ.set a m b = μ b := by unfold Mu.set; rw [if_neg h]
theorem Mu.set_set {μ : Mu} {a : Addr} {m n : MO} : (μ.set a m).set a n = μ.set a n := by
  funext b; unfold Mu.set; split <;> rfl
theorem Mu.set_self {μ : Mu} {a : Addr} {m : MO} (h : μ a = some m) : μ.set a m = μ := by
  funext b; unfold Mu.set; split
  · rename_i e; rw [e, h]
  · rfl
theorem Mu.set_comm {μ : Mu} {a b : Addr} {m n : MO} (h : a ≠ b) : (μ.set a m).set b n = (μ.set b n).set a m := by
  funext c; unfold Mu.set
  by_cases h1 : c = a
  · subst h1; rw [if_neg h, if_pos rfl, if_pos rfl]
  · by_cases h2 : c = b
    · subst h2; rw [if_pos rfl, if_neg h1, if_pos rfl]
    · simp only [if_neg h1, if_neg h2]

section
variable (K : PySem.W.Frag) (mg : Str → Option Value)
mutual
def Rep (I : Hp) : D → V → Prop
  | .non, v => v = .non
  | .bl b, v => v = .bl b
  | .int i, v => v = .int i
  | .str s, v => v = .str s
  | .ref a, v => v = .ref a
  | .fn x, v => ∃ f, mg x = some (.ref f) ∧ PySem.W.keepIn K (.ref f) = true ∧ v = .ref f
  | .tup ds, v => ∃ p vs, v = .ref p ∧ I p = some (.tup vs) ∧ Reps I ds vs
  | .lst ds, v => ∃ p vs, v = .ref p ∧ I p = some (.lst vs) ∧ Reps I ds vs
  | .rd ds, v => ∃ p vs, v = .ref p ∧ SqL K I p vs ∧ Reps I ds vs
  | .dK kvs, v => ∃ p ws, v = .ref p ∧ Rd I p (.dK ws) ∧ RepK I kvs ws
def Reps (I : Hp) : List D → List V → Prop
  | [], vs => vs = []
  | d :: ds, vs => ∃ v r, vs = v :: r ∧ Rep I d v ∧ Reps I ds r
def RepK (I : Hp) : List (Key × D) → List (Key × V) → Prop
  | [], ws => ws = []
  | p :: ps, ws => ∃ v r, ws = (p.1, v) :: r ∧ RepP I p v ∧ RepK I ps r
def RepP (I : Hp) : (Key × D) → V → Prop
  | (_, d), v => Rep I d v
end
end

/-- what a walk may lock -/
def LockO : HO → Prop
  | .dK _ => True
  | .dT _ => True
  | _ => False
/-- what stood stands, a dict perhaps locked -/
def Ext (I I' : Hp) : Prop := ∀ a o, I a = some o → I' a = some o ∨ (LockO o ∧ ∃ ob, I' a = some (.frz ob o))
theorem Ext.refl (I : Hp) : Ext I I := fun _ _ h => .inl h
theorem Ext.get {I I' : Hp} (h : Ext I I') {a : Addr} {o : HO} (e : I a = some o) (n : ¬ LockO o := by exact fun z => z) : I' a = some o := by
  rcases h a o e with q | ⟨q, _⟩
  · exact q
  · exact (n q).elim
theorem Ext.trans {I I' I'' : Hp} (h : Ext I I') (k : Ext I' I'') : Ext I I'' := fun a o e => by
  rcases h a o e with q | ⟨l, ob, q⟩
  · exact k a o q
  · exact .inr ⟨l, ob, k.get q⟩
theorem Ext.of {I I' : Hp} (h : ∀ a o, I a = some o → I' a = some o) : Ext I I' := fun a o e => .inl (h a o e)
theorem Ext.upd {I : Hp} {p : Addr} {o : HO} (h : I p = none) : Ext I (upd I p o) := Ext.of fun a u e => by
  rw [upd_ne (ne_of_none e h)]; exact e
theorem Ext.sq {K : PySem.W.Frag} {I I' : Hp} (h : Ext I I') {a : Addr} {xs : List V} (q : SqL K I a xs) : SqL K I' a xs := by
  rcases q with (q | ⟨o, q⟩) | q
  · exact .inl (.inl (h.get q))
  · exact .inl (.inr ⟨o, h.get q⟩)
  · exact .inr q
theorem Ext.rd {I I' : Hp} (h : Ext I I') {a : Addr} {o : HO} (q : Rd I a o) : Rd I' a o := by
  rcases q with q | ⟨ob, q⟩
  · rcases h _ _ q with q | ⟨_, ob, q⟩
    · exact .inl q
    · exact .inr ⟨ob, q⟩
  · exact .inr ⟨ob, h.get q⟩

section
variable {K : PySem.W.Frag} {mg : Str → Option Value} {I I' : Hp}
mutual
theorem Rep.mono (h : Ext I I') : ∀ (d : D) (v : V), Rep K mg I d v → Rep K mg I' d v
  | .non, _, r => r
  | .bl _, _, r => r
  | .int _, _, r => r
  | .str _, _, r => r
  | .ref _, _, r => r
  | .fn _, _, r => r
  | .tup ds, _, r => by
    obtain ⟨p, vs, e, hp, q⟩ := r
    exact ⟨p, vs, e, h.get hp, Reps.mono h ds vs q⟩
  | .lst ds, _, r => by
    obtain ⟨p, vs, e, hp, q⟩ := r
    exact ⟨p, vs, e, h.get hp, Reps.mono h ds vs q⟩
  | .rd ds, _, r => by
    obtain ⟨p, vs, e, hp, q⟩ := r
    exact ⟨p, vs, e, h.sq hp, Reps.mono h ds vs q⟩
  | .dK kvs, _, r => by
    obtain ⟨p, vs, e, hp, q⟩ := r
    exact ⟨p, vs, e, h.rd hp, RepK.mono h kvs vs q⟩
theorem Reps.mono (h : Ext I I') : ∀ (ds : List D) (vs : List V), Reps K mg I ds vs → Reps K mg I' ds vs
  | [], _, r => r
  | d :: ds, _, r => by
    obtain ⟨v, w, e, r1, r2⟩ := r
    exact ⟨v, w, e, Rep.mono h d v r1, Reps.mono h ds w r2⟩
theorem RepK.mono (h : Ext I I') : ∀ (ds : List (Key × D)) (vs : List (Key × V)), RepK K mg I ds vs → RepK K mg I' ds vs
  | [], _, r => r
  | d :: ds, _, r => by
    obtain ⟨v, w, e, r1, r2⟩ := r
    exact ⟨v, w, e, RepP.mono h d v r1, RepK.mono h ds w r2⟩
theorem RepP.mono (h : Ext I I') : ∀ (d : Key × D) (v : V), RepP K mg I d v → RepP K mg I' d v
  | (_, d), v, r => Rep.mono h d v r
end
end

section
variable {K : PySem.W.Frag} {mg : Str → Option Value} {I : Hp}
theorem Reps.nil : Reps K mg I [] [] := rfl
theorem Reps.cons {d : D} {v : V} {ds : List D} {vs : List V} (h : Rep K mg I d v) (t : Reps K mg I ds vs) : Reps K mg I (d :: ds) (v :: vs) := ⟨v, vs, rfl, h, t⟩
theorem Reps.cons_inv {d : D} {v : V} {ds : List D} {vs : List V} (h : Reps K mg I (d :: ds) (v :: vs)) : Rep K mg I d v ∧ Reps K mg I ds vs := by
  obtain ⟨v', w, e, r1, r2⟩ := h
  injection e with e1 e2
  subst e1 e2
  exact ⟨r1, r2⟩
theorem Reps.length : ∀ {ds : List D} {vs : List V}, Reps K mg I ds vs → vs.length = ds.length
  | [], _, r => by rw [show _ = [] from r] <;> rfl
  | d :: ds, _, r => by
    obtain ⟨v, w, rfl, _, r2⟩ := r
    rw [List.length_cons, List.length_cons, Reps.length r2]
theorem Reps.append : ∀ {ds es : List D} {vs ws : List V}, Reps K mg I ds vs → Reps K mg I es ws → Reps K mg I (ds ++ es) (vs ++ ws)
  | [], _, _, _, r, q => by rw [show _ = [] from r]; exact q
  | d :: ds, _, _, _, r, q => by
    obtain ⟨v, w, rfl, r1, r2⟩ := r
    exact .cons r1 (Reps.append r2 q)
theorem Reps.get : ∀ {ds : List D} {vs : List V} {i : Nat} {v : V}, Reps K mg I ds vs → vs[i]? = some v → ∃ d, ds[i]? = some d ∧ Rep K mg I d v
  | [], _, _, _, r, e => by rw [show _ = [] from r] at e; simp at e
  | d :: ds, _, 0, _, r, e => by
    obtain ⟨v, w, rfl, r1, r2⟩ := r
    simp at e
    exact ⟨d, rfl, e ▸ r1⟩
  | d :: ds, _, i + 1, _, r, e => by
    obtain ⟨v, w, rfl, r1, r2⟩ := r
    simp at e
    obtain ⟨x, h1, h2⟩ := Reps.get r2 e
    exact ⟨x, by simpa using h1, h2⟩
theorem Reps.at : ∀ {ds : List D} {vs : List V} {i : Nat} {d : D}, Reps K mg I ds vs → ds[i]? = some d → ∃ v, vs[i]? = some v ∧ Rep K mg I d v
  | [], _, _, _, r, e => by simp at e
  | d :: ds, _, 0, _, r, e => by
    obtain ⟨v, w, rfl, r1, r2⟩ := r
    simp at e
    exact ⟨v, rfl, e ▸ r1⟩
  | d :: ds, _, i + 1, _, r, e => by
    obtain ⟨v, w, rfl, r1, r2⟩ := r
    simp at e
    obtain ⟨x, h1, h2⟩ := Reps.at r2 e
    exact ⟨x, by simpa using h1, h2⟩
theorem Reps.take : ∀ {ds : List D} {vs : List V} (n : Nat), Reps K mg I ds vs → Reps K mg I (ds.take n) (vs.take n)
  | _, _, 0, _ => by simp [Reps]
  | [], _, _ + 1, r => by rw [show _ = [] from r]; simp [Reps]
  | d :: ds, _, n + 1, r => by
    obtain ⟨v, w, rfl, r1, r2⟩ := r
    exact .cons r1 (Reps.take n r2)
theorem Reps.drop : ∀ {ds : List D} {vs : List V} (n : Nat), Reps K mg I ds vs → Reps K mg I (ds.drop n) (vs.drop n)
  | _, _, 0, r => r
  | [], _, _ + 1, r => by rw [show _ = [] from r]; simp [Reps]
  | d :: ds, _, n + 1, r => by
    obtain ⟨v, w, rfl, r1, r2⟩ := r
    exact Reps.drop n r2
theorem Reps.set {d : D} {v : V} (h : Rep K mg I d v) : ∀ {ds : List D} {vs : List V} (n : Nat), Reps K mg I ds vs → Reps K mg I (ds.set n d) (vs.set n v)
  | [], _, _, r => by rw [show _ = [] from r]; exact rfl
  | _ :: ds, _, 0, r => by
    obtain ⟨v, w, rfl, r1, r2⟩ := r
    exact .cons h r2
  | _ :: ds, _, n + 1, r => by
    obtain ⟨v, w, rfl, r1, r2⟩ := r
    exact .cons r1 (Reps.set h n r2)
theorem Reps.eraseIdx : ∀ {ds : List D} {vs : List V} (n : Nat), Reps K mg I ds vs → Reps K mg I (ds.eraseIdx n) (vs.eraseIdx n)
  | [], _, _, r => by rw [show _ = [] from r]; exact rfl
  | _ :: ds, _, 0, r => by
    obtain ⟨v, w, rfl, r1, r2⟩ := r
    exact r2
  | _ :: ds, _, n + 1, r => by
    obtain ⟨v, w, rfl, r1, r2⟩ := r
    exact .cons r1 (Reps.eraseIdx n r2)
theorem Reps.reverse {ds : List D} {vs : List V} (r : Reps K mg I ds vs) : Reps K mg I ds.reverse vs.reverse := by
  induction ds generalizing vs with
  | nil => rw [show vs = [] from r]; exact rfl
  | cons d ds ih =>
    obtain ⟨v, w, rfl, r1, r2⟩ := r
    rw [List.reverse_cons, List.reverse_cons]
    exact Reps.append (ih r2) (.cons r1 .nil)
theorem Reps.dropLast {ds : List D} {vs : List V} (r : Reps K mg I ds vs) : Reps K mg I ds.dropLast vs.dropLast := by
  rw [List.dropLast_eq_take, List.dropLast_eq_take, r.length]
  exact r.take _
theorem Reps.rep {ds : List D} {vs : List V} (r : Reps K mg I ds vs) : ∀ n : Nat, Reps K mg I (List.replicate n ds).flatten (List.replicate n vs).flatten
  | 0 => by simp [Reps]
  | n + 1 => by
    rw [List.replicate_succ, List.replicate_succ, List.flatten_cons, List.flatten_cons]
    exact r.append (Reps.rep r n)
theorem Reps.ints : ∀ {ns : List Int} {vs : List V}, Reps K mg I (ns.map D.int) vs → vs = ns.map V.int
  | [], _, r => r
  | n :: ns, _, r => by
    obtain ⟨v, w, rfl, r1, r2⟩ := r
    rw [show v = V.int n from r1, Reps.ints r2]; rfl
theorem Reps.bls : ∀ {ns : List Bool} {vs : List V}, Reps K mg I (ns.map D.bl) vs → vs = ns.map V.bl
  | [], _, r => r
  | n :: ns, _, r => by
    obtain ⟨v, w, rfl, r1, r2⟩ := r
    rw [show v = V.bl n from r1, Reps.bls r2]; rfl
theorem Reps.of_ints : ∀ {ns : List Int}, Reps K mg I (ns.map D.int) (ns.map V.int)
  | [] => rfl
  | n :: ns => .cons rfl Reps.of_ints
end

/-- a thing that changes, in the heap -/
def MRep (K : PySem.W.Frag) (mg : Str → Option Value) (I : Hp) : MO → HO → Prop
  | .lst ds, o => ∃ vs, o = .lst vs ∧ Reps K mg I ds vs
  | .dK kvs, o => ∃ ws, o = .dK ws ∧ RepK K mg I kvs ws
theorem MRep.mono {K : PySem.W.Frag} {mg : Str → Option Value} {I I' : Hp} (h : Ext I I') : ∀ {m : MO} {o : HO}, MRep K mg I m o → MRep K mg I' m o
  | .lst ds, o, ⟨vs, e, r⟩ => ⟨vs, e, Reps.mono h _ _ r⟩
  | .dK ds, o, ⟨vs, e, r⟩ => ⟨vs, e, RepK.mono h _ _ r⟩

def NoTup (o : HO) : Prop := ∀ vs, o ≠ .tup vs
/-- the heap: I what stands, μ what changes, F what others hold -/
structure HM (K : PySem.W.Frag) (mg : Str → Option Value) (H I F : Hp) (μ : Mu) : Prop where
  sub : ∀ a o, I a = some o → H a = some o
  frm : ∀ a o, F a = some o → H a = some o ∧ I a = none ∧ μ a = none
  muts : ∀ a m, μ a = some m → I a = none ∧ ∃ o, H a = some o ∧ MRep K mg I m o
  ftup : ∀ a o, F a = some o → NoTup o

section
variable {K : PySem.W.Frag} {mg : Str → Option Value} {H I F : Hp} {μ : Mu} {p : Addr} {o : HO} {m : MO}
theorem HM.rd (h : HM K mg H I F μ) {a : Addr} {o : HO} (e : Rd I a o) : Rd H a o := by
  rcases e with q | ⟨ob, q⟩
  · exact .inl (h.sub _ _ q)
  · exact .inr ⟨ob, h.sub _ _ q⟩
theorem HM.ine (h : HM K mg H I F μ) {a : Addr} (e : I a = some o) (hp : H p = none) : a ≠ p := ne_of_none (h.sub _ _ e) hp
theorem HM.inone (h : HM K mg H I F μ) (hp : H p = none) : I p = none := by
  cases e : I p with
  | none => rfl
  | some u => exact (h.ine e hp rfl).elim
theorem HM.fnone (h : HM K mg H I F μ) (hp : H p = none) : F p = none := by
  cases e : F p with
  | none => rfl
  | some u => rw [(h.frm _ _ e).1] at hp; cases hp
theorem HM.mnone (h : HM K mg H I F μ) (hp : H p = none) : μ p = none := by
  cases e : μ p with
  | none => rfl
  | some u =>
    obtain ⟨_, o, q, _⟩ := h.muts _ _ e
    rw [q] at hp; cases hp
/-- a new thing, that stands -/
theorem HM.new (h : HM K mg H I F μ) (hp : H p = none) : HM K mg (upd H p o) (upd I p o) F μ ∧ Ext I (upd I p o) := by
  have i0 := h.inone hp
  have x : Ext I (upd I p o) := Ext.upd i0
  refine ⟨⟨fun a u e => ?_, fun a u e => ?_, fun a m e => ?_, h.ftup⟩, x⟩
  · by_cases ha : a = p
    · subst ha; rw [upd_same] at e ⊢; exact e
    · rw [upd_ne ha] at e ⊢; exact h.sub _ _ e
  · obtain ⟨q1, q2, q3⟩ := h.frm _ _ e
    have ha : a ≠ p := ne_of_none q1 hp
    rw [upd_ne ha, upd_ne ha]
    exact ⟨q1, q2, q3⟩
  · obtain ⟨q1, u, q2, q3⟩ := h.muts _ _ e
    have ha : a ≠ p := ne_of_none q2 hp
    rw [upd_ne ha, upd_ne ha]
    exact ⟨q1, u, q2, q3.mono x⟩
/-- a tuple of the heap, that stands -/
theorem HM.adopt {vs : List V} (h : HM K mg H I F μ) (hp : H p = some (.tup vs)) : ∃ I', Ext I I' ∧ I' p = some (.tup vs) ∧ HM K mg H I' F μ := by
  cases e : I p with
  | some u =>
    have : u = .tup vs := by
      have q := h.sub _ _ e
      rw [hp] at q
      cases q
      rfl
    subst this
    exact ⟨I, Ext.refl I, e, h⟩
  | none =>
    have x : Ext I (upd I p (.tup vs)) := Ext.upd e
    refine ⟨_, x, upd_same, ⟨fun a u q => ?_, fun a u q => ?_, fun a m q => ?_, h.ftup⟩⟩
    · by_cases ha : a = p
      · subst ha; rw [upd_same] at q; cases q; exact hp
      · rw [upd_ne ha] at q; exact h.sub _ _ q
    · obtain ⟨q1, q2, q3⟩ := h.frm _ _ q
      have ha : a ≠ p := fun z => by
        subst z
        rw [hp] at q1
        cases q1
        exact h.ftup _ _ q _ rfl
      rw [upd_ne ha]
      exact ⟨q1, q2, q3⟩
    · obtain ⟨q1, u, q2, q3⟩ := h.muts _ _ q
      have ha : a ≠ p := fun z => by
        subst z
        rw [hp] at q2
        cases q2
        cases m with
        | lst _ => obtain ⟨_, z, _⟩ := q3; cases z
        | dK _ => obtain ⟨_, z, _⟩ := q3; cases z
      rw [upd_ne ha]
      exact ⟨q1, u, q2, q3.mono x⟩
/-- a dict that stands is locked -/
theorem HM.lock {ob : Obj} (h : HM K mg H I F μ) (hp : I p = some o) (l : LockO o) : HM K mg (upd H p (.frz ob o)) (upd I p (.frz ob o)) F μ ∧ Ext I (upd I p (.frz ob o)) := by
  have x : Ext I (upd I p (.frz ob o)) := fun a u q => by
    by_cases ha : a = p
    · subst ha; rw [hp] at q; cases q; rw [upd_same]; exact .inr ⟨l, ob, rfl⟩
    · rw [upd_ne ha]; exact .inl q
  refine ⟨⟨fun a u q => ?_, fun a u q => ?_, fun a m q => ?_, h.ftup⟩, x⟩
  · by_cases ha : a = p
    · subst ha; rw [upd_same] at q ⊢; exact q
    · rw [upd_ne ha] at q ⊢; exact h.sub _ _ q
  · obtain ⟨q1, q2, q3⟩ := h.frm _ _ q
    have ha : a ≠ p := fun z => by subst z; rw [hp] at q2; cases q2
    rw [upd_ne ha, upd_ne ha]
    exact ⟨q1, q2, q3⟩
  · obtain ⟨q1, u, q2, q3⟩ := h.muts _ _ q
    have ha : a ≠ p := fun z => by subst z; rw [hp] at q1; cases q1
    rw [upd_ne ha, upd_ne ha]
    exact ⟨q1, u, q2, q3.mono x⟩
/-- a new thing, in the store -/
theorem HM.newM (h : HM K mg H I F μ) (hp : H p = none) (r : MRep K mg I m o) : HM K mg (upd H p o) I F (μ.set p m) := by
  have i0 := h.inone hp
  refine ⟨fun a u e => ?_, fun a u e => ?_, fun a n e => ?_, h.ftup⟩
  · rw [upd_ne (h.ine e hp)]; exact h.sub _ _ e
  · obtain ⟨q1, q2, q3⟩ := h.frm _ _ e
    have ha : a ≠ p := ne_of_none q1 hp
    rw [upd_ne ha, Mu.set_ne ha]
    exact ⟨q1, q2, q3⟩
  · by_cases ha : a = p
    · subst ha
      rw [Mu.set_same] at e
      cases e
      exact ⟨i0, o, upd_same, r⟩
    · rw [Mu.set_ne ha] at e
      obtain ⟨q1, u, q2, q3⟩ := h.muts _ _ e
      exact ⟨q1, u, by rw [upd_ne ha]; exact q2, q3⟩
/-- a thing in the store is changed -/
theorem HM.put {m0 : MO} (h : HM K mg H I F μ) (h0 : μ p = some m0) (r : MRep K mg I m o) : HM K mg (upd H p o) I F (μ.set p m) := by
  obtain ⟨i0, u0, _, _⟩ := h.muts _ _ h0
  refine ⟨fun a u e => ?_, fun a u e => ?_, fun a n e => ?_, h.ftup⟩
  · have ha : a ≠ p := fun z => by subst z; rw [i0] at e; cases e
    rw [upd_ne ha]; exact h.sub _ _ e
  · obtain ⟨q1, q2, q3⟩ := h.frm _ _ e
    have ha : a ≠ p := fun z => by subst z; rw [h0] at q3; cases q3
    rw [upd_ne ha, Mu.set_ne ha]
    exact ⟨q1, q2, q3⟩
  · by_cases ha : a = p
    · subst ha
      rw [Mu.set_same] at e
      cases e
      exact ⟨i0, o, upd_same, r⟩
    · rw [Mu.set_ne ha] at e
      obtain ⟨q1, u, q2, q3⟩ := h.muts _ _ e
      exact ⟨q1, u, by rw [upd_ne ha]; exact q2, q3⟩
/-- others' new thing -/
theorem HM.newF (h : HM K mg H I F μ) (hp : H p = none) (nt : NoTup o := by intro _ z; cases z) : HM K mg (upd H p o) I (upd F p o) μ := by
  refine ⟨fun a u e => ?_, fun a u e => ?_, fun a n e => ?_, fun a u e => ?_⟩
  · rw [upd_ne (h.ine e hp)]; exact h.sub _ _ e
  · by_cases ha : a = p
    · subst ha
      rw [upd_same] at e ⊢
      exact ⟨e, h.inone hp, h.mnone hp⟩
    · rw [upd_ne ha] at e ⊢
      exact h.frm _ _ e
  · obtain ⟨q1, u, q2, q3⟩ := h.muts _ _ e
    have ha : a ≠ p := ne_of_none q2 hp
    exact ⟨q1, u, by rw [upd_ne ha]; exact q2, q3⟩
  · by_cases ha : a = p
    · subst ha; rw [upd_same] at e; cases e; exact nt
    · rw [upd_ne ha] at e; exact h.ftup _ _ e
/-- others' thing is changed -/
theorem HM.putF {o0 : HO} (h : HM K mg H I F μ) (h0 : F p = some o0) (nt : NoTup o := by intro _ z; cases z) : HM K mg (upd H p o) I (upd F p o) μ := by
  obtain ⟨_, i0, m0⟩ := h.frm _ _ h0
  refine ⟨fun a u e => ?_, fun a u e => ?_, fun a n e => ?_, fun a u e => ?_⟩
  · have ha : a ≠ p := fun z => by subst z; rw [i0] at e; cases e
    rw [upd_ne ha]; exact h.sub _ _ e
  · by_cases ha : a = p
    · subst ha
      rw [upd_same] at e ⊢
      exact ⟨e, i0, m0⟩
    · rw [upd_ne ha] at e ⊢
      exact h.frm _ _ e
  · obtain ⟨q1, u, q2, q3⟩ := h.muts _ _ e
    have ha : a ≠ p := fun z => by subst z; rw [m0] at e; cases e
    exact ⟨q1, u, by rw [upd_ne ha]; exact q2, q3⟩
  · by_cases ha : a = p
    · subst ha; rw [upd_same] at e; cases e; exact nt
    · rw [upd_ne ha] at e; exact h.ftup _ _ e
def del (F : Hp) (p : Addr) : Hp := fun a => if a = p then none else F a
theorem ftup_del (h : HM K mg H I F μ) : ∀ a u, del F p a = some u → NoTup u := fun a u e => by
  unfold del at e
  split at e
  · cases e
  · exact h.ftup _ _ e
/-- others' thing becomes one that stands -/
theorem HM.ofF (h : HM K mg H I F μ) (h0 : F p = some o) : HM K mg H (upd I p o) (del F p) μ ∧ Ext I (upd I p o) := by
  obtain ⟨h1, i0, m0⟩ := h.frm _ _ h0
  have x : Ext I (upd I p o) := Ext.upd i0
  refine ⟨⟨fun a u e => ?_, fun a u e => ?_, fun a n e => ?_, ftup_del h⟩, x⟩
  · by_cases ha : a = p
    · subst ha; rw [upd_same] at e; cases e; exact h1
    · rw [upd_ne ha] at e; exact h.sub _ _ e
  · unfold del at e
    by_cases ha : a = p
    · rw [if_pos ha] at e; cases e
    · rw [if_neg ha] at e
      rw [upd_ne ha]; exact h.frm _ _ e
  · obtain ⟨q1, u, q2, q3⟩ := h.muts _ _ e
    have ha : a ≠ p := fun z => by subst z; rw [m0] at e; cases e
    exact ⟨by rw [upd_ne ha]; exact q1, u, q2, q3.mono x⟩
/-- others' thing becomes one of the store -/
theorem HM.ofFM (h : HM K mg H I F μ) (h0 : F p = some o) (r : MRep K mg I m o) : HM K mg H I (del F p) (μ.set p m) := by
  obtain ⟨h1, i0, m0⟩ := h.frm _ _ h0
  refine ⟨h.sub, fun a u e => ?_, fun a n e => ?_, ftup_del h⟩
  · unfold del at e
    by_cases ha : a = p
    · rw [if_pos ha] at e; cases e
    · rw [if_neg ha] at e
      rw [Mu.set_ne ha]; exact h.frm _ _ e
  · by_cases ha : a = p
    · subst ha
      rw [Mu.set_same] at e
      cases e
      exact ⟨i0, o, h1, r⟩
    · rw [Mu.set_ne ha] at e
      exact h.muts _ _ e
theorem HM.weakF {F' : Hp} (h : HM K mg H I F μ) (x : ∀ a o, F' a = some o → F a = some o) : HM K mg H I F' μ := ⟨h.sub, fun a o e => h.frm a o (x a o e), h.muts, fun a o e => h.ftup a o (x a o e)⟩
theorem del_upd {p : Addr} {o : HO} {F : Hp} (h : F p = none) : ∀ a u, F a = some u → del (upd F p o) p a = some u := fun a u e => by
  have ha : a ≠ p := fun z => by subst z; rw [h] at e; cases e
  unfold del
  rw [if_neg ha, upd_ne ha]; exact e
end

/-! ### slots -/
abbrev Rho := List (Option D)
def Slots (K : PySem.W.Frag) (mg : Str → Option Value) (I : Hp) (ρ : Rho) (σ : L2.St) : Prop :=
  ρ.length = σ.length ∧ ∀ (i : Nat) (d : D), ρ[i]? = some (some d) → ∃ v, σ[i]? = some (some v) ∧ Rep K mg I d v
section
variable {K : PySem.W.Frag} {mg : Str → Option Value} {I I' : Hp} {ρ : Rho} {σ : L2.St}
theorem Slots.mono (x : Ext I I') (s : Slots K mg I ρ σ) : Slots K mg I' ρ σ := ⟨s.1, fun i d e => by
  obtain ⟨v, h1, h2⟩ := s.2 i d e
  exact ⟨v, h1, Rep.mono x _ _ h2⟩⟩
theorem Slots.set {i : Nat} {d : D} {v : V} (s : Slots K mg I ρ σ) (r : Rep K mg I d v) : Slots K mg I (ρ.set i (some d)) (σ.set i (some v)) := by
  refine ⟨by rw [List.length_set, List.length_set]; exact s.1, fun j e h => ?_⟩
  by_cases hj : i = j
  · subst hj
    by_cases hl : i < ρ.length
    · rw [List.getElem?_set_self hl] at h
      cases h
      exact ⟨v, by rw [List.getElem?_set_self (s.1 ▸ hl)], r⟩
    · rw [List.getElem?_eq_none (by simpa using hl)] at h; cases h
  · rw [List.getElem?_set_ne hj] at h
    obtain ⟨v, h1, h2⟩ := s.2 j e h
    exact ⟨v, by rw [List.getElem?_set_ne hj]; exact h1, h2⟩
theorem Slots.setNone {i : Nat} (s : Slots K mg I ρ σ) : Slots K mg I (ρ.set i none) (σ.set i none) := by
  refine ⟨by rw [List.length_set, List.length_set]; exact s.1, fun j e h => ?_⟩
  by_cases hj : i = j
  · subst hj
    by_cases hl : i < ρ.length
    · rw [List.getElem?_set_self hl] at h; cases h
    · rw [List.getElem?_eq_none (by simpa using hl)] at h; cases h
  · rw [List.getElem?_set_ne hj] at h
    obtain ⟨v, h1, h2⟩ := s.2 j e h
    exact ⟨v, by rw [List.getElem?_set_ne hj]; exact h1, h2⟩
def wipeD (ρ : Rho) : List Nat → Rho
  | [] => ρ
  | v :: vs => (wipeD ρ vs).set v none
theorem Slots.wipe (s : Slots K mg I ρ σ) : ∀ vs : List Nat, Slots K mg I (wipeD ρ vs) (L2.wipe σ vs)
  | [] => s
  | v :: vs => (Slots.wipe s vs).setNone
end
end PL
/-! PL1: the small language and what it means over data. -/
namespace PL
open PySem PySem.Spec PyProof.Rows L2 PySem.SeqAt PySem.W

inductive BOp where | add | sub | mul | fdiv | mod | pow
  deriving DecidableEq
inductive COp where | eq | ne | lt | le | gt | ge | isin | notin | is | isnot
  deriving DecidableEq
inductive Ty where | int | bool | tuple | list | str
  deriving DecidableEq
/-- built-in functions -/
inductive Bi where | len | abs | int | all | any | list | tuple | sorted | sum | sumL | max | min | max2 | min2 | range | setI | lenSet | sortedSet | str
  deriving DecidableEq
inductive Mth where | pop | index | append
  deriving DecidableEq

/-- expressions; nl, cs: rows of them (arguments); an absent part is nl. The first flag of what makes a list: in the store -/
inductive IE where
  | var (i : Nat) | int (n : Int) | str (s : Str) | bl (b : Bool) | non
  | glob (x : Str) | fnv (x : Str)
  | nl | cs (a b : IE)
  | tup (es : IE) | lst (m : Bool) (es : IE)
  | bin (o : BOp) (m : Bool) (a b : IE)
  | cmp (o : COp) (a b : IE) | chain (o1 o2 : COp) (a b c : IE)
  | and (a b : IE) | or (a b : IE) | not (a : IE) | neg (a : IE)
  | ite (c a b : IE)
  | idx (a i : IE) | slice (m : Bool) (a lo hi : IE) | rev (m : Bool) (a : IE)
  | call (f : Str) (es : IE) | callv (i : Nat) (es : IE)
  | bi (b : Bi) (m : Bool) (es : IE)
  | inst (a : IE) (t : Ty)
  | meth (o : IE) (n : Mth) (es : IE)
  | enum (a : IE) | range1 (a : IE) | range2 (a b : IE)
  | rng1 (m : Bool) (a : IE) | rng2 (m : Bool) (a b : IE)
  | lc (m : Bool) (e : IE) (tg : List Nat) (tp : Bool) (it : IE) (hc : Bool) (c : IE) (own : List Nat)
  | lc2 (m : Bool) (e : IE) (tg : List Nat) (tp : Bool) (it : IE) (hc : Bool) (c : IE) (tg1 : List Nat) (tp1 : Bool) (it1 : IE) (hc1 : Bool) (c1 : IE) (own : List Nat)
  | dc (k v : IE) (tg : List Nat) (tp : Bool) (it : IE) (hc : Bool) (c : IE) (own : List Nat)
  | dnew (m : Bool)
  | chain3 (o1 o2 o3 : COp) (a b c d : IE)
  | globS (x : Str) | split (m : Bool) (a b : IE) | join (a b : IE) | zip (a b : IE)
  deriving Inhabited

/-- an exception of an own class: the class, its fields -/
structure Exc where
  c : Str
  fs : List (Str × D)
abbrev RD := D → Mu → Prop
abbrev RX := Exc → Mu → Prop
/-- what a def promises over data: how many parameters; the promise -/
structure DSp where
  n : Nat
  sp : List D → Mu → RD → RX → Prop
  len : ∀ ds μ R E, sp ds μ R E → ds.length = n
/-- what is known of the module -/
structure Md where
  fns : Str → Option DSp
  nums : Str → Option Int
  sub : Str → Str → Option Bool
  own : Str → Bool
  txs : Str → Option Str := fun _ => none
  own1 : Str → Option Str := fun _ => none

def lim : Nat := 1000000

def mkL (m : Bool) (ds : List D) (μ : Mu) (R : RD) : Prop := match m with
  | true => ∀ a, μ a = none → R (.ref a) (μ.set a (.lst ds))
  | false => R (.lst ds) μ
def mkK (m : Bool) (ds : List (Key × D)) (μ : Mu) (R : RD) : Prop := match m with
  | true => ∀ a, μ a = none → R (.ref a) (μ.set a (.dK ds))
  | false => R (.dK ds) μ

/-- the items of a list or tuple, as they are at μ -/
def items (μ : Mu) : D → Option (List D)
  | .lst ds => some ds
  | .tup ds => some ds
  | .rd ds => some ds
  | .ref a => match μ a with
    | some (.lst ds) => some ds
    | _ => none
  | _ => none
/-- .. of a list -/
def litems (μ : Mu) : D → Option (List D)
  | .lst ds => some ds
  | .ref a => match μ a with
    | some (.lst ds) => some ds
    | _ => none
  | _ => none
/-- .. of a list, perhaps one that is only read -/
def ritems (μ : Mu) : D → Option (List D)
  | .rd ds => some ds
  | x => litems μ x
def kitems (μ : Mu) : D → Option (List (Key × D))
  | .dK ks => some ks
  | .ref a => match μ a with
    | some (.dK ds) => some ds
    | _ => none
  | _ => none

def isTy : Ty → D → Bool
  | .int, .int _ => true
  | .int, .bl _ => true
  | .bool, .bl _ => true
  | .tuple, .tup _ => true
  | .list, .lst _ => true
  | .str, .str _ => true
  | _, _ => false
/-- what isinstance may be asked of -/
def tyable (μ : Mu) : D → Bool
  | .ref _ => false
  | .fn _ => false
  | .rd _ => false
  | _ => true

/-- flat things, as == tells them -/
def flatD : D → Bool
  | .non => true
  | .bl _ => true
  | .int _ => true
  | .str _ => true
  | _ => false
def toV : D → V
  | .non => .non
  | .bl b => .bl b
  | .int i => .int i
  | .str s => .str s
  | _ => .non
/-- y == x of flat things -/
def eqF (y x : D) : Bool := eqV (toV y) (toV x)

mutual
def toPy : D → Option PyData
  | .non => some .none
  | .bl b => some (.bool b)
  | .int i => some (.int i)
  | .str s => some (.str s)
  | .tup ds => (toPys ds).map PyData.tuple
  | .lst ds => (toPys ds).map PyData.list
  | _ => none
def toPys : List D → Option (List PyData)
  | [] => some []
  | d :: ds => match toPy d, toPys ds with
    | some p, some ps => some (p :: ps)
    | _, _ => none
end
def encD (d : D) : PyData := (toPy d).getD .none
/-- a store list at the top is read -/
def derefL (μ : Mu) : D → D
  | .ref a => match μ a with
    | some (.lst ds) => .lst ds
    | _ => .ref a
  | x => x

def keyOf : D → Option Key
  | .int i => some (.inl i)
  | .str s => some (.inr s)
  | _ => none
def lookK {α : Type} (kvs : List (Key × α)) (k : Key) : Option α := (kvs.find? fun kv => decide (kv.1 = k)).map (·.2)
def hasK {α : Type} (kvs : List (Key × α)) (k : Key) : Bool := (lookK kvs k).isSome
def setK {α : Type} (kvs : List (Key × α)) (k : Key) (v : α) : List (Key × α) :=
  if (kvs.any fun kv => decide (kv.1 = k)) = true then kvs.map (fun kv => if kv.1 = k then (kv.1, v) else kv) else kvs ++ [(k, v)]

/-! ### operators -/
def opBin (o : BOp) (m : Bool) (x y : D) (μ : Mu) (R : RD) : Prop := match o with
  | .add => match x, y with
    | .int i, .int j => R (.int (i + j)) μ
    | .tup xs, .tup ys => xs.length + ys.length ≤ lim ∧ R (.tup (xs ++ ys)) μ
    | .str i, .str j => i.length + j.length ≤ lim ∧ R (.str (i ++ j)) μ
    | _, _ => ∃ xs ys, litems μ x = some xs ∧ litems μ y = some ys ∧ xs.length + ys.length ≤ lim ∧ mkL m (xs ++ ys) μ R
  | .sub => match x, y with
    | .int i, .int j => R (.int (i - j)) μ
    | _, _ => False
  | .mul => match x, y with
    | .int i, .int j => CMul i j ∧ R (.int (i * j)) μ
    | _, .int k => ∃ xs, litems μ x = some xs ∧ k ≤ lim ∧ -(2 ^ 63) ≤ k ∧ xs.length * k.toNat ≤ lim ∧ mkL m (List.replicate k.toNat xs).flatten μ R
    | _, _ => False
  | .fdiv => match x, y with
    | .int i, .int j => CDiv i j ∧ R (.int (i / j)) μ
    | _, _ => False
  | .mod => match x, y with
    | .int i, .int j => 0 < j ∧ R (.int (i % j)) μ
    | _, _ => False
  | .pow => match x, y with
    | .int i, .int j => CPow i j ∧ R (.int (i ^ j.toNat)) μ
    | _, _ => False
def scalD : D → D → Bool
  | .int _, .int _ => true
  | .bl _, .bl _ => true
  | .str _, .str _ => true
  | _, _ => false
def eqS : D → D → Bool
  | .int i, .int j => decide (i = j)
  | .bl i, .bl j => decide (i = j)
  | .str i, .str j => decide (i = j)
  | _, _ => false
/-- x == y -/
def opEq (x y : D) (μ : Mu) (R : Bool → Prop) : Prop := match scalD x y with
  | true => R (eqS x y)
  | false => ∃ p q, toPy (derefL μ x) = some p ∧ toPy (derefL μ y) = some q ∧ SeqAt.shaped p = true ∧ SeqAt.shaped q = true ∧ R (PyData.eqv p q)
/-- x < y of data that are alike -/
def opLt (x y : D) (μ : Mu) (R : Bool → Prop) : Prop := match x, y with
  | .int i, .int j => R (decide (i < j))
  | .str i, .str j => R (decide (i.cps.toList < j.cps.toList))
  | _, _ => ∃ p q, toPy (derefL μ x) = some p ∧ toPy (derefL μ y) = some q ∧ alike p q = true ∧ p ≠ .none ∧ p.depth ≤ 60 ∧ R (dataLt p q)
def opInt (f : Int → Int → Bool) (x y : D) (R : Bool → Prop) : Prop := match x, y with
  | .int i, .int j => R (f i j)
  | _, _ => False
def inSeq (x : D) (xs : List D) : Bool := xs.any fun y => eqF y x
def opIn (x y : D) (μ : Mu) (R : Bool → Prop) : Prop :=
  (∃ xs, items μ y = some xs ∧ flatD x = true ∧ xs.all flatD = true ∧ R (inSeq x xs)) ∨
  (∃ ks k, kitems μ y = some ks ∧ keyOf x = some k ∧ R (hasK ks k)) ∨
  (∃ (c : Nat) (z : Str), x = .str ⟨#[c]⟩ ∧ y = .str z ∧ R (decide (c ∈ z.cps.toList)))
def isNon : D → Bool
  | .non => true
  | _ => false
def opIs (x y : D) (R : Bool → Prop) : Prop := match y with
  | .non => R (isNon x)
  | .bl b => match x with
    | .bl a => R (decide (a = b))
    | _ => False
  | _ => False
def opCmp (o : COp) (x y : D) (μ : Mu) (R : Bool → Prop) : Prop := match o with
  | .eq => opEq x y μ R
  | .ne => opEq x y μ fun b => R (!b)
  | .lt => opLt x y μ R
  | .le => opInt (fun i j => decide (i ≤ j)) x y R
  | .gt => opInt (fun i j => decide (j < i)) x y R
  | .ge => opInt (fun i j => decide (j ≤ i)) x y R
  | .isin => opIn x y μ R
  | .notin => opIn x y μ fun b => R (!b)
  | .is => opIs x y R
  | .isnot => opIs x y fun b => R (!b)

/-- a thing's truth -/
def truth (x : D) (μ : Mu) (R : Bool → Prop) : Prop := match x with
  | .non => R false
  | .bl b => R b
  | .int i => R (i != 0)
  | .str s => s.length ≤ lim ∧ R (s.length != 0)
  | _ => ∃ xs, items μ x = some xs ∧ R (!xs.isEmpty)

def opIdx (x y : D) (μ : Mu) (R : RD) : Prop :=
  (∃ xs i d, items μ x = some xs ∧ y = .int i ∧ atI xs i = some d ∧ R d μ) ∨
  (∃ ks k d, kitems μ x = some ks ∧ keyOf y = some k ∧ lookK ks k = some d ∧ R d μ) ∨
  (∃ (z : Str) (i : Int) (c : Nat), x = .str z ∧ y = .int i ∧ z.length ≤ lim ∧ atI z.cps.toList i = some c ∧ R (.str ⟨#[c]⟩) μ)
def cutD (xs : List D) (lo hi : Option Int) : List D := (xs.drop (HT.sIx xs.length 0 lo)).take (HT.sIx xs.length xs.length hi - HT.sIx xs.length 0 lo)
def opSlice (m : Bool) (x : D) (lo hi : Option Int) (μ : Mu) (R : RD) : Prop := match x with
  | .tup xs => R (.tup (cutD xs lo hi)) μ
  | .str z => z.length ≤ lim ∧ R (.str (cutS z lo hi)) μ
  | _ => ∃ xs, ritems μ x = some xs ∧ mkL m (cutD xs lo hi) μ R
def opRev (m : Bool) (x : D) (μ : Mu) (R : RD) : Prop := match x with
  | .tup xs => R (.tup xs.reverse) μ
  | _ => ∃ xs, ritems μ x = some xs ∧ mkL m xs.reverse μ R

/-- built-in functions on their arguments -/
def opBi (b : Bi) (m : Bool) (xs : List D) (μ : Mu) (R : RD) : Prop := match b, xs with
  | .len, [x] => (∃ ys, items μ x = some ys ∧ R (.int ys.length) μ) ∨ (∃ ks, kitems μ x = some ks ∧ R (.int ks.length) μ) ∨ (∃ s, x = .str s ∧ s.length ≤ lim ∧ R (.int s.length) μ)
  | .abs, [.int i] => R (.int (if i < 0 then -i else i)) μ
  | .int, [.int i] => R (.int i) μ
  | .int, [.bl i] => R (.int (if i then 1 else 0)) μ
  | .int, [.str s] => ∃ n, PySem.intText? s = some n ∧ s.length ≤ 640 ∧ R (.int n) μ
  | .str, [.int i] => i.natAbs.log2 < 1920 ∧ R (.str (toString i)) μ
  | .str, [.str s] => R (.str s) μ
  | .all, [x] => ∃ bs : List Bool, ritems μ x = some (bs.map D.bl) ∧ R (.bl (bs.all id)) μ
  | .any, [x] => ∃ bs : List Bool, ritems μ x = some (bs.map D.bl) ∧ R (.bl (bs.any id)) μ
  | .list, [x] => ∃ ys, items μ x = some ys ∧ mkL m ys μ R
  | .tuple, [x] => ∃ ys, items μ x = some ys ∧ R (.tup ys) μ
  | .sorted, [x] => ∃ ds ps, items μ x = some ds ∧ toPys ds = some ps ∧ AllAlike ps ∧ Sortable ps ∧ ds.length ≤ lim ∧ (∀ p ∈ ps, p.depth ≤ 60) ∧ mkL m (ds.mergeSort (dataLe false encD)) μ R
  | .sum, [x] => ∃ ns : List Int, ritems μ x = some (ns.map D.int) ∧ R (.int ns.sum) μ
  | .sumL, [x, y] => ∃ (xss : List (List D)), ritems μ x = some (xss.map D.lst) ∧ y = .lst [] ∧ m = false ∧ xss.flatten.length ≤ lim ∧ R (.lst xss.flatten) μ
  | .max, [x] => ∃ ns : List Int, items μ x = some (ns.map D.int) ∧ 0 < ns.length ∧ ∀ k, k ∈ ns → (∀ y, y ∈ ns → y ≤ k) → R (.int k) μ
  | .min, [x] => ∃ ns : List Int, items μ x = some (ns.map D.int) ∧ 0 < ns.length ∧ ∀ k, k ∈ ns → (∀ y, y ∈ ns → k ≤ y) → R (.int k) μ
  | .max2, [.int i, .int j] => R (.int (if j > i then j else i)) μ
  | .min2, [.int i, .int j] => R (.int (if j < i then j else i)) μ
  | .range, [.int j] => -lim ≤ j ∧ j ≤ lim ∧ mkL m ((List.range j.toNat).map fun i => D.int (i : Nat)) μ R
  | .range, [.int i, .int j] => -lim ≤ i ∧ i ≤ lim ∧ -lim ≤ j ∧ j ≤ lim ∧ mkL m ((List.range (j - i).toNat).map fun k => D.int (i + (k : Nat))) μ R
  | .lenSet, [x] => ∃ ns : List Int, ritems μ x = some (ns.map D.int) ∧ ns.length ≤ 1000 ∧ R (.int ns.eraseDups.length) μ
  | .sortedSet, [x] => ∃ ns : List Int, ritems μ x = some (ns.map D.int) ∧ ns.length < 64 ∧ ∀ ns' : List Int, ns'.Pairwise (· < ·) → (∀ k, k ∈ ns' ↔ k ∈ ns) → mkL m (ns'.map D.int) μ R
  | _, _ => False
def opMeth (n : Mth) (x : D) (ys : List D) (μ : Mu) (R : RD) : Prop := match n, x, ys with
  | .pop, .ref a, [] => ∃ ds d, μ a = some (.lst ds) ∧ ds[ds.length - 1]? = some d ∧ R d (μ.set a (.lst ds.dropLast))
  | .pop, .ref a, [.int i] => ∃ ds k d, μ a = some (.lst ds) ∧ i = ((k : Nat) : Int) ∧ ds[k]? = some d ∧ ds.length ≤ lim ∧ R d (μ.set a (.lst (ds.eraseIdx k)))
  | .append, .ref a, [y] => ∃ ds, μ a = some (.lst ds) ∧ ds.length < lim ∧ R .non (μ.set a (.lst (ds ++ [y])))
  | .index, x, [y] => ∃ ds j z, ritems μ x = some ds ∧ flatD y = true ∧ ds.all flatD = true ∧ ds[j]? = some z ∧ eqF z y = true ∧ (∀ (k : Nat) z', k < j → ds[k]? = some z' → eqF z' y = false) ∧ R (.int (j : Nat)) μ
  | _, _, _ => False

/-- a.split(b), a.join(b) -/
def opSplit (m : Bool) (x y : D) (μ : Mu) (R : RD) : Prop := ∃ a b : Str, x = .str a ∧ y = .str b ∧ b.length ≠ 0 ∧ a.length ≤ lim ∧ mkL m ((Txt.split a b).map D.str) μ R
def opJoin (x y : D) (μ : Mu) (R : RD) : Prop := ∃ (a : Str) (ys : List Str), x = .str a ∧ items μ y = some (ys.map D.str) ∧ (ys.map (·.length)).sum + ys.length * a.length ≤ lim ∧ R (.str (Txt.join a ys)) μ
def keyD : Key → D
  | .inl i => .int i
  | .inr s => .str s
/-! ### loops -/
/-- a thing to its names -/
def bindD (tg : List Nat) (tp : Bool) (d : D) (ρ : Rho) (R : Rho → Prop) : Prop := match tp, tg with
  | false, [i] => R (ρ.set i (some d))
  | true, is => ∃ ds, d = .tup ds ∧ ds.length = is.length ∧ R ((is.zip ds).foldl (fun ρ p => ρ.set p.1 (some p.2)) ρ)
  | _, _ => False
/-- items, one behind another, each a turn -/
def turns (body : D → List D → Mu → (List D → Mu → Prop) → Prop) (g : Mu → Prop) : List D → List D → Mu → (List D → Mu → Prop) → Prop
  | [], acc, μ, R => g μ ∧ R acc μ
  | d :: ds, acc, μ, R => g μ ∧ body d acc μ fun acc' μ' => turns body g ds acc' μ' R
def turnsK (body : D → List (Key × D) → Mu → (List (Key × D) → Mu → Prop) → Prop) (g : Mu → Prop) : List D → List (Key × D) → Mu → (List (Key × D) → Mu → Prop) → Prop
  | [], acc, μ, R => g μ ∧ R acc μ
  | d :: ds, acc, μ, R => g μ ∧ body d acc μ fun acc' μ' => turnsK body g ds acc' μ' R

/-- the source of a walk: items, and what must hold while it is walked -/
abbrev RI := List D → (Mu → Prop) → Mu → Prop
def srcSeq (x : D) (μ : Mu) (R : RI) : Prop := match x with
  | .lst ds => R ds (fun _ => True) μ
  | .tup ds => R ds (fun _ => True) μ
  | .rd ds => R ds (fun _ => True) μ
  | .ref a => ∃ ds, μ a = some (.lst ds) ∧ R ds (fun μ' => μ' a = some (.lst ds)) μ
  | _ => False
def srcOf (x : D) (μ : Mu) (R : RI) : Prop := match x with
  | .lst ds => R ds (fun _ => True) μ
  | .tup ds => R ds (fun _ => True) μ
  | .rd ds => R ds (fun _ => True) μ
  | .dK ks => R (ks.map fun p => keyD p.1) (fun _ => True) μ
  | .str z => R (z.cps.toList.map fun c => .str ⟨#[c]⟩) (fun _ => True) μ
  | .ref a => ∃ ds, μ a = some (.lst ds) ∧ R ds (fun μ' => μ' a = some (.lst ds)) μ
  | _ => False

/-- the pairs of a walk over two things of one kind that stand -/
def zipOf (x y : D) (μ : Mu) (R : RI) : Prop := match x, y with
  | .lst as, .lst bs => R ((as.zip bs).map fun p => .tup [p.1, p.2]) (fun _ => True) μ
  | .tup as, .tup bs => R ((as.zip bs).map fun p => .tup [p.1, p.2]) (fun _ => True) μ
  | _, _ => False
/-- a comprehension's test, if it has one -/
def condT (hc : Bool) (f : (Bool → Mu → Prop) → RX → Prop) (μ : Mu) (R : Bool → Mu → Prop) (X : RX) : Prop := match hc with
  | true => f R X
  | false => R true μ
mutual
def semE (Φ : Md) : IE → Rho → Mu → RD → RX → Prop
  | .var i, ρ, μ, R, _ => ∃ d, ρ[i]? = some (some d) ∧ R d μ
  | .int n, _, μ, R, _ => R (.int n) μ
  | .str n, _, μ, R, _ => R (.str n) μ
  | .bl n, _, μ, R, _ => R (.bl n) μ
  | .non, _, μ, R, _ => R .non μ
  | .glob x, _, μ, R, _ => ∃ n, Φ.nums x = some n ∧ R (.int n) μ
  | .fnv x, _, μ, R, _ => (Φ.fns x).isSome = true ∧ R (.fn x) μ
  | .nl, _, _, _, _ => False
  | .cs _ _, _, _, _, _ => False
  | .tup es, ρ, μ, R, X => semA Φ es ρ μ (fun ds μ' => R (.tup ds) μ') X
  | .lst m es, ρ, μ, R, X => semA Φ es ρ μ (fun ds μ' => mkL m ds μ' R) X
  | .bin o m a b, ρ, μ, R, X => semE Φ a ρ μ (fun x μ1 => semE Φ b ρ μ1 (fun y μ2 => opBin o m x y μ2 R) X) X
  | .cmp o a b, ρ, μ, R, X => semE Φ a ρ μ (fun x μ1 => semE Φ b ρ μ1 (fun y μ2 => opCmp o x y μ2 fun k => R (.bl k) μ2) X) X
  | .chain o1 o2 a b c, ρ, μ, R, X => semE Φ a ρ μ (fun x μ1 => semE Φ b ρ μ1 (fun y μ2 => opCmp o1 x y μ2 fun k => match k with
      | true => semE Φ c ρ μ2 (fun z μ3 => opCmp o2 y z μ3 fun k => R (.bl k) μ3) X
      | false => R (.bl false) μ2) X) X
  | .and a b, ρ, μ, R, X => semE Φ a ρ μ (fun x μ1 => ∃ c, x = .bl c ∧ match c with
      | true => semE Φ b ρ μ1 R X
      | false => R (.bl false) μ1) X
  | .or a b, ρ, μ, R, X => semE Φ a ρ μ (fun x μ1 => ∃ c, x = .bl c ∧ match c with
      | true => R (.bl true) μ1
      | false => semE Φ b ρ μ1 R X) X
  | .not a, ρ, μ, R, X => semE Φ a ρ μ (fun x μ1 => ∃ c, x = .bl c ∧ R (.bl (!c)) μ1) X
  | .neg a, ρ, μ, R, X => semE Φ a ρ μ (fun x μ1 => ∃ i, x = .int i ∧ R (.int (-i)) μ1) X
  | .ite c a b, ρ, μ, R, X => semT Φ c ρ μ (fun k μ1 => match k with
      | true => semE Φ a ρ μ1 R X
      | false => semE Φ b ρ μ1 R X) X
  | .idx a i, ρ, μ, R, X => semE Φ a ρ μ (fun x μ1 => semE Φ i ρ μ1 (fun y μ2 => opIdx x y μ2 R) X) X
  | .slice m a lo hi, ρ, μ, R, X => semE Φ a ρ μ (fun x μ1 => semO Φ lo ρ μ1 (fun l μ2 => semO Φ hi ρ μ2 (fun h μ3 => opSlice m x l h μ3 R) X) X) X
  | .rev m a, ρ, μ, R, X => semE Φ a ρ μ (fun x μ1 => opRev m x μ1 R) X
  | .call f es, ρ, μ, R, X => ∃ s, Φ.fns f = some s ∧ semA Φ es ρ μ (fun ds μ1 => s.sp ds μ1 R X) X
  | .callv i es, ρ, μ, R, X => ∃ f s, ρ[i]? = some (some (.fn f)) ∧ Φ.fns f = some s ∧ semA Φ es ρ μ (fun ds μ1 => s.sp ds μ1 R X) X
  | .bi b m es, ρ, μ, R, X => semA Φ es ρ μ (fun ds μ1 => opBi b m ds μ1 R) X
  | .inst a t, ρ, μ, R, X => semE Φ a ρ μ (fun x μ1 => tyable μ1 x = true ∧ R (.bl (isTy t x)) μ1) X
  | .meth o n es, ρ, μ, R, X => semE Φ o ρ μ (fun x μ1 => (ritems μ1 x).isSome = true ∧ semA Φ es ρ μ1 (fun ds μ2 => opMeth n x ds μ2 R) X) X
  | .enum _, _, _, _, _ => False
  | .range1 _, _, _, _, _ => False
  | .range2 _ _, _, _, _, _ => False
  | .rng1 m a, ρ, μ, R, X => semE Φ a ρ μ (fun x μ1 => opBi .range m [x] μ1 R) X
  | .rng2 m a b, ρ, μ, R, X => semE Φ a ρ μ (fun x μ1 => semE Φ b ρ μ1 (fun y μ2 => opBi .range m [x, y] μ2 R) X) X
  | .lc m e tg tp it hc c own, ρ, μ, R, X => semI Φ it ρ μ (fun ds g μ1 => ds.length ≤ lim ∧
      turns (fun d acc μ2 K => bindD tg tp d (wipeD ρ own) fun ρ2 => condT hc (semT Φ c ρ2 μ2) μ2 (fun b μ3 => match b with
        | true => semE Φ e ρ2 μ3 (fun y μ4 => K (acc ++ [y]) μ4) (fun _ _ => False)
        | false => K acc μ3) (fun _ _ => False)) g ds [] μ1 fun acc μ2 => mkL m acc μ2 R) X
  | .lc2 m e tg tp it hc c tg1 tp1 it1 hc1 c1 own, ρ, μ, R, X => semI Φ it ρ μ (fun ds g μ1 =>
      turns (fun d acc μ2 K => bindD tg tp d (wipeD ρ own) fun ρ2 => condT hc (semT Φ c ρ2 μ2) μ2 (fun b μ3 => match b with
        | true => semI Φ it1 ρ2 μ3 (fun ds1 g1 μ4 =>
            turns (fun d1 acc μ5 K1 => bindD tg1 tp1 d1 (wipeD ρ2 tg1) fun ρ3 => condT hc1 (semT Φ c1 ρ3 μ5) μ5 (fun b μ6 => match b with
              | true => semE Φ e ρ3 μ6 (fun y μ7 => acc.length < lim ∧ K1 (acc ++ [y]) μ7) (fun _ _ => False)
              | false => K1 acc μ6) (fun _ _ => False)) g1 ds1 acc μ4 K) (fun _ _ => False)
        | false => K acc μ3) (fun _ _ => False)) g ds [] μ1 fun acc μ2 => mkL m acc μ2 R) X
  | .dc k v tg tp it hc c own, ρ, μ, R, X => semI Φ it ρ μ (fun ds g μ1 => ds.length ≤ lim ∧
      turnsK (fun d acc μ2 K => bindD tg tp d (wipeD ρ own) fun ρ2 => condT hc (semT Φ c ρ2 μ2) μ2 (fun b μ3 => match b with
        | true => semE Φ k ρ2 μ3 (fun y μ4 => semE Φ v ρ2 μ4 (fun z μ5 => ∃ k, keyOf y = some k ∧ K (setK acc k z) μ5) (fun _ _ => False)) (fun _ _ => False)
        | false => K acc μ3) (fun _ _ => False)) g ds [] μ1 fun acc μ2 => R (.dK acc) μ2) X
  | .dnew m, _, μ, R, _ => mkK m [] μ R
  | .globS x, _, μ, R, _ => ∃ n, Φ.txs x = some n ∧ R (.str n) μ
  | .split m a b, ρ, μ, R, X => semE Φ a ρ μ (fun x μ1 => (∃ z, x = .str z) ∧ semE Φ b ρ μ1 (fun y μ2 => opSplit m x y μ2 R) X) X
  | .join a b, ρ, μ, R, X => semE Φ a ρ μ (fun x μ1 => (∃ z, x = .str z) ∧ semE Φ b ρ μ1 (fun y μ2 => opJoin x y μ2 R) X) X
  | .zip _ _, _, _, _, _ => False
  | .chain3 o1 o2 o3 a b c d, ρ, μ, R, X => semE Φ a ρ μ (fun x μ1 => semE Φ b ρ μ1 (fun y μ2 => opCmp o1 x y μ2 fun k => match k with
      | true => semE Φ c ρ μ2 (fun z μ3 => opCmp o2 y z μ3 fun k => match k with
        | true => semE Φ d ρ μ3 (fun w μ4 => opCmp o3 z w μ4 fun k => R (.bl k) μ4) X
        | false => R (.bl false) μ3) X
      | false => R (.bl false) μ2) X) X
def semT (Φ : Md) : IE → Rho → Mu → (Bool → Mu → Prop) → RX → Prop
  | .and a b, ρ, μ, R, X => semT Φ a ρ μ (fun k μ1 => match k with
      | true => semT Φ b ρ μ1 R X
      | false => R false μ1) X
  | .or a b, ρ, μ, R, X => semT Φ a ρ μ (fun k μ1 => match k with
      | true => R true μ1
      | false => semT Φ b ρ μ1 R X) X
  | .not a, ρ, μ, R, X => semT Φ a ρ μ (fun k μ1 => R (!k) μ1) X
  | .ite c a b, ρ, μ, R, X => semT Φ c ρ μ (fun k μ1 => match k with
      | true => semT Φ a ρ μ1 R X
      | false => semT Φ b ρ μ1 R X) X
  | .cmp o a b, ρ, μ, R, X => semE Φ a ρ μ (fun x μ1 => semE Φ b ρ μ1 (fun y μ2 => opCmp o x y μ2 fun k => R k μ2) X) X
  | .chain o1 o2 a b c, ρ, μ, R, X => semE Φ a ρ μ (fun x μ1 => semE Φ b ρ μ1 (fun y μ2 => opCmp o1 x y μ2 fun k => match k with
      | true => semE Φ c ρ μ2 (fun z μ3 => opCmp o2 y z μ3 fun k => R k μ3) X
      | false => R false μ2) X) X
  | .var i, ρ, μ, R, _ => ∃ d, ρ[i]? = some (some d) ∧ truth d μ fun k => R k μ
  | .call f es, ρ, μ, R, X => ∃ s, Φ.fns f = some s ∧ semA Φ es ρ μ (fun ds μ1 => s.sp ds μ1 (fun x μ2 => truth x μ2 fun k => R k μ2) X) X
  | .callv i es, ρ, μ, R, X => ∃ f s, ρ[i]? = some (some (.fn f)) ∧ Φ.fns f = some s ∧ semA Φ es ρ μ (fun ds μ1 => s.sp ds μ1 (fun x μ2 => truth x μ2 fun k => R k μ2) X) X
  | .bi b m es, ρ, μ, R, X => semA Φ es ρ μ (fun ds μ1 => opBi b m ds μ1 (fun x μ2 => truth x μ2 fun k => R k μ2)) X
  | .inst a t, ρ, μ, R, X => semE Φ a ρ μ (fun x μ1 => tyable μ1 x = true ∧ R (isTy t x) μ1) X
  | .idx a i, ρ, μ, R, X => semE Φ a ρ μ (fun x μ1 => semE Φ i ρ μ1 (fun y μ2 => opIdx x y μ2 (fun x μ2 => truth x μ2 fun k => R k μ2)) X) X
  | _, _, _, _, _ => False
def semA (Φ : Md) : IE → Rho → Mu → (List D → Mu → Prop) → RX → Prop
  | .nl, _, μ, R, _ => R [] μ
  | .cs a b, ρ, μ, R, X => semE Φ a ρ μ (fun x μ1 => semA Φ b ρ μ1 (fun xs μ2 => R (x :: xs) μ2) X) X
  | _, _, _, _, _ => False
def semO (Φ : Md) : IE → Rho → Mu → (Option Int → Mu → Prop) → RX → Prop
  | .nl, _, μ, R, _ => R none μ
  | .var i, ρ, μ, R, _ => ∃ n, ρ[i]? = some (some (.int n)) ∧ R (some n) μ
  | .int n, _, μ, R, _ => R (some n) μ
  | .bin o m a b, ρ, μ, R, X => semE Φ a ρ μ (fun x μ1 => semE Φ b ρ μ1 (fun y μ2 => opBin o m x y μ2 fun z μ3 => ∃ n, z = .int n ∧ R (some n) μ3) X) X
  | .neg a, ρ, μ, R, X => semE Φ a ρ μ (fun x μ1 => ∃ i, x = .int i ∧ ∃ n, D.int (-i) = .int n ∧ R (some n) μ1) X
  | .call f es, ρ, μ, R, X => ∃ s, Φ.fns f = some s ∧ semA Φ es ρ μ (fun ds μ1 => s.sp ds μ1 (fun z μ3 => ∃ n, z = .int n ∧ R (some n) μ3) X) X
  | _, _, _, _, _ => False
def semI (Φ : Md) : IE → Rho → Mu → RI → RX → Prop
  | .range1 a, ρ, μ, R, X => semE Φ a ρ μ (fun x μ1 => ∃ j : Int, x = .int j ∧ j ≤ lim ∧ -lim ≤ j ∧ R ((List.range j.toNat).map fun i => D.int (i : Nat)) (fun _ => True) μ1) X
  | .range2 a b, ρ, μ, R, X => semE Φ a ρ μ (fun x μ1 => semE Φ b ρ μ1 (fun y μ2 => ∃ i j : Int, x = .int i ∧ y = .int j ∧ i ≤ lim ∧ -lim ≤ i ∧ j ≤ lim ∧ -lim ≤ j ∧
      R ((List.range (j - i).toNat).map fun k => D.int (i + (k : Nat))) (fun _ => True) μ2) X) X
  | .enum a, ρ, μ, R, X => semE Φ a ρ μ (fun x μ1 => srcSeq x μ1 fun ds g μ2 => R (ds.zipIdx.map fun p => D.tup [.int (p.2 : Nat), p.1]) g μ2) X
  | .var i, ρ, μ, R, _ => ∃ d, ρ[i]? = some (some d) ∧ srcOf d μ R
  | .call f es, ρ, μ, R, X => ∃ s, Φ.fns f = some s ∧ semA Φ es ρ μ (fun ds μ1 => s.sp ds μ1 (fun x μ2 => srcOf x μ2 R) X) X
  | .slice m a lo hi, ρ, μ, R, X => semE Φ a ρ μ (fun x μ1 => semO Φ lo ρ μ1 (fun l μ2 => semO Φ hi ρ μ2 (fun h μ3 => opSlice m x l h μ3 (fun x μ2 => srcOf x μ2 R)) X) X) X
  | .lc m e tg tp it hc c own, ρ, μ, R, X => semI Φ it ρ μ (fun ds g μ1 => ds.length ≤ lim ∧
      turns (fun d acc μ2 K => bindD tg tp d (wipeD ρ own) fun ρ2 => condT hc (semT Φ c ρ2 μ2) μ2 (fun b μ3 => match b with
        | true => semE Φ e ρ2 μ3 (fun y μ4 => K (acc ++ [y]) μ4) (fun _ _ => False)
        | false => K acc μ3) (fun _ _ => False)) g ds [] μ1 fun acc μ2 => mkL m acc μ2 (fun x μ2 => srcOf x μ2 R)) X
  | .idx a i, ρ, μ, R, X => semE Φ a ρ μ (fun x μ1 => semE Φ i ρ μ1 (fun y μ2 => opIdx x y μ2 (fun x μ2 => srcOf x μ2 R)) X) X
  | .bi b m es, ρ, μ, R, X => semA Φ es ρ μ (fun ds μ1 => opBi b m ds μ1 (fun x μ2 => srcOf x μ2 R)) X
  | .lst m es, ρ, μ, R, X => semA Φ es ρ μ (fun ds μ' => mkL m ds μ' (fun x μ2 => srcOf x μ2 R)) X
  | .tup es, ρ, μ, R, X => semA Φ es ρ μ (fun ds μ' => srcOf (.tup ds) μ' R) X
  | .zip a b, ρ, μ, R, X => semE Φ a ρ μ (fun x μ1 => semE Φ b ρ μ1 (fun y μ2 => zipOf x y μ2 R) X) X
  | _, _, _, _, _ => False
end
end PL
/-! PL2: statements over data. -/
namespace PL
open PySem PySem.Spec PyProof.Rows L2

/-- a part of a tuple target -/
inductive T2 where | nm (i : Nat) | tp (is : List Nat)
def T2.bind (t : T2) (d : D) (ρ : Rho) (R : Rho → Prop) : Prop := match t with
  | .nm i => R (ρ.set i (some d))
  | .tp is => bindD is true d ρ R
def bind2s : List T2 → List D → Rho → (Rho → Prop) → Prop
  | [], [], ρ, R => R ρ
  | t :: ts, d :: ds, ρ, R => t.bind d ρ fun ρ1 => bind2s ts ds ρ1 R
  | _, _, _, _ => False
def bind2 (ts : List T2) (d : D) (ρ : Rho) (R : Rho → Prop) : Prop := ∃ ds, d = .tup ds ∧ bind2s ts ds ρ R
inductive Tgt where | nm (i : Nat) | sub (a i : IE)
/-- statements; nop, sq: blocks. hs: the clauses of a try, a row of (class, slot of its name if it has one, suite) -/
inductive IS where
  | nop | sq (a b : IS)
  | asg (t : Tgt) (e : IE)
  | asg2 (t1 t2 : Tgt) (e1 e2 : IE)
  | unp (tg : List Nat) (e : IE)
  | expr (e : IE)
  | aug (i : Nat) (o : BOp) (e : IE)
  | ite (c : IE) (a b : IS)
  | for (tg : List Nat) (tp : Bool) (it : IE) (b : IS)
  | while (c : IE) (b : IS)
  | ret (e : IE) | retN | brk | cont | pass
  | raise (c : Str)
  | try (b h : IS)
  | hnil | hcons (c : Str) (i : Option Nat) (s r : IS)
  | forP (ts : List T2) (it : IE) (b : IS)
  | raise1 (c : Str) (e : IE)
  | asgX (i : Nat) (el : IE) (tg : List Nat) (tp : Bool) (it : IE) (own : List Nat)
  | hfld (c : Str) (i : Nat) (tag f : Str) (r : IS)
  deriving Inhabited

structure End where
  nx : Rho → Mu → Prop
  rt : RD
  bk : Rho → Mu → Prop := fun _ _ => False
  ct : Rho → Mu → Prop := fun _ _ => False
  ex : Exc → Rho → Mu → Prop := fun _ _ _ => False

def opSet (x i v : D) (μ : Mu) (R : Mu → Prop) : Prop :=
  (∃ a ds k j, x = .ref a ∧ i = .int k ∧ μ a = some (.lst ds) ∧ ixN ds.length k = some j ∧ R (μ.set a (.lst (ds.set j v)))) ∨
  (∃ a ks k, x = .ref a ∧ keyOf i = some k ∧ μ a = some (.dK ks) ∧ ks.length < lim ∧ R (μ.set a (.dK (setK ks k v))))
def semG (Φ : Md) (t : Tgt) (d : D) (ρ : Rho) (μ : Mu) (R : Rho → Mu → Prop) (X : RX) : Prop := match t with
  | .nm i => R (ρ.set i (some d)) μ
  | .sub a i => semE Φ a ρ μ (fun x μ1 => semE Φ i ρ μ1 (fun y μ2 => opSet x y d μ2 fun μ3 => R ρ μ3) X) X
/-- the turns of a for -/
def forT (g : Mu → Prop) (bind : D → Rho → (Rho → Prop) → Prop) (body : Rho → Mu → End → Prop) : List D → Rho → Mu → End → Prop
  | [], ρ, μ, E => g μ ∧ E.nx ρ μ
  | d :: ds, ρ, μ, E => g μ ∧ bind d ρ fun ρ1 => body ρ1 μ { E with nx := fun ρ' μ' => forT g bind body ds ρ' μ' E, ct := fun ρ' μ' => forT g bind body ds ρ' μ' E, bk := E.nx }

mutual
def semS (Φ : Md) : IS → Rho → Mu → End → Prop
  | .nop, ρ, μ, E => E.nx ρ μ
  | .sq a b, ρ, μ, E => semS Φ a ρ μ { E with nx := fun ρ1 μ1 => semS Φ b ρ1 μ1 E }
  | .asg t e, ρ, μ, E => semE Φ e ρ μ (fun d μ1 => semG Φ t d ρ μ1 E.nx (fun x μ' => E.ex x ρ μ')) (fun x μ' => E.ex x ρ μ')
  | .asg2 t1 t2 e1 e2, ρ, μ, E => semE Φ e1 ρ μ (fun d1 μ1 => semE Φ e2 ρ μ1 (fun d2 μ2 =>
      semG Φ t1 d1 ρ μ2 (fun ρ1 μ3 => semG Φ t2 d2 ρ1 μ3 E.nx (fun x μ' => E.ex x ρ1 μ')) (fun x μ' => E.ex x ρ μ')) (fun x μ' => E.ex x ρ μ')) (fun x μ' => E.ex x ρ μ')
  | .unp tg e, ρ, μ, E => semE Φ e ρ μ (fun d μ1 => bindD tg true d ρ fun ρ1 => E.nx ρ1 μ1) (fun x μ' => E.ex x ρ μ')
  | .expr e, ρ, μ, E => semE Φ e ρ μ (fun _ μ1 => E.nx ρ μ1) (fun x μ' => E.ex x ρ μ')
  | .aug i o e, ρ, μ, E => ∃ n, ρ[i]? = some (some (.int n)) ∧ semE Φ e ρ μ (fun d μ1 => ∃ k, d = .int k ∧ match o with
      | .add => E.nx (ρ.set i (some (.int (n + k)))) μ1
      | .sub => E.nx (ρ.set i (some (.int (n - k)))) μ1
      | _ => False) (fun x μ' => E.ex x ρ μ')
  | .ite c a b, ρ, μ, E => semT Φ c ρ μ (fun k μ1 => match k with
      | true => semS Φ a ρ μ1 E
      | false => semS Φ b ρ μ1 E) (fun x μ' => E.ex x ρ μ')
  | .for tg tp it b, ρ, μ, E => semI Φ it ρ μ (fun ds g μ1 => forT g (bindD tg tp) (fun ρ μ E => semS Φ b ρ μ E) ds ρ μ1 E) (fun x μ' => E.ex x ρ μ')
  | .while c b, ρ, μ, E => ∃ W : Nat → Rho → Mu → Prop, (∃ m, W m ρ μ) ∧ ∀ m ρ μ, W m ρ μ → semT Φ c ρ μ (fun k μ1 => match k with
      | true => semS Φ b ρ μ1 { E with nx := fun ρ' μ' => ∃ m', m' < m ∧ W m' ρ' μ', ct := fun ρ' μ' => ∃ m', m' < m ∧ W m' ρ' μ', bk := E.nx }
      | false => E.nx ρ μ1) (fun x μ' => E.ex x ρ μ')
  | .ret e, ρ, μ, E => semE Φ e ρ μ E.rt (fun x μ' => E.ex x ρ μ')
  | .retN, _, μ, E => E.rt .non μ
  | .brk, ρ, μ, E => E.bk ρ μ
  | .cont, ρ, μ, E => E.ct ρ μ
  | .pass, ρ, μ, E => E.nx ρ μ
  | .raise c, ρ, μ, E => Φ.own c = true ∧ E.ex ⟨c, []⟩ ρ μ
  | .try b h, ρ, μ, E => semS Φ b ρ μ { E with ex := fun x ρ' μ' => semH Φ h x ρ' μ' E }
  | .hnil, _, _, _ => False
  | .hcons _ _ _ _, _, _, _ => False
  | .hfld _ _ _ _ _, _, _, _ => False
  | .forP ts it b, ρ, μ, E => semI Φ it ρ μ (fun ds g μ1 => forT g (bind2 ts) (fun ρ μ E => semS Φ b ρ μ E) ds ρ μ1 E) (fun x μ' => E.ex x ρ μ')
  | .raise1 c e, ρ, μ, E => ∃ f, Φ.own1 c = some f ∧ semE Φ e ρ μ (fun d μ1 => E.ex ⟨c, [(f, d)]⟩ ρ μ1) (fun x μ' => E.ex x ρ μ')
  | .asgX i el tg tp it own, ρ, μ, E => semI Φ it ρ μ (fun ds g μ1 => ds.length ≤ lim ∧
      turns (fun d acc μ2 K => bindD tg tp d (wipeD ρ own) fun ρ2 => semE Φ el ρ2 μ2 (fun y μ4 => K (acc ++ [y]) μ4) (fun x μ' => E.ex x ρ μ')) g ds [] μ1 fun acc μ2 => E.nx (ρ.set i (some (.lst acc))) μ2) (fun x μ' => E.ex x ρ μ')
def semH (Φ : Md) : IS → Exc → Rho → Mu → End → Prop
  | .hnil, x, ρ, μ, E => E.ex x ρ μ
  | .hcons c i s r, x, ρ, μ, E => ∃ b, Φ.sub x.c c = some b ∧ match b with
      | true => (match i with
        | none => semS Φ s ρ μ { E with ex := fun _ _ _ => False }
        | some i => semS Φ s (ρ.set i none) μ { nx := fun ρ' μ' => E.nx (ρ'.set i none) μ', rt := E.rt, bk := fun ρ' μ' => E.bk (ρ'.set i none) μ', ct := fun ρ' μ' => E.ct (ρ'.set i none) μ' })
      | false => semH Φ r x ρ μ E
  | .hfld c i tag f r, x, ρ, μ, E => ∃ b, Φ.sub x.c c = some b ∧ match b with
      | true => c = x.c ∧ Φ.own1 c = some f ∧ i < ρ.length ∧ ∃ d, x.fs = [(f, d)] ∧ E.rt (.lst [.str tag, d]) μ
      | false => semH Φ r x ρ μ E
  | _, _, _, _, _ => False
end
end PL
/-! PL3: the operators over data are those over the heap. -/
namespace PL
open PySem PySem.Spec PyProof.Rows L2

theorem lim_le : lim ≤ sizeLine := by unfold lim; decide
section
variable {K : PySem.W.Frag} {mg : Str → Option Value} {H I F : Hp} {μ : Mu}

theorem HM.sq (h : HM K mg H I F μ) {p : Addr} {vs : List V} (q : SqL K I p vs) : SqL K H p vs := by
  rcases q with (q | ⟨o, q⟩) | q
  · exact .inl (.inl (h.sub _ _ q))
  · exact .inl (.inr ⟨o, h.sub _ _ q⟩)
  · exact .inr q
theorem litems_ok (h : HM K mg H I F μ) {x : D} {v : V} {ds : List D} (r : Rep K mg I x v) (e : litems μ x = some ds) : ∃ p vs, v = .ref p ∧ H p = some (.lst vs) ∧ Reps K mg I ds vs := by
  cases x with
  | lst es =>
    have e' : es = ds := Option.some.inj e
    subst e'
    obtain ⟨p, vs, rfl, hp, q⟩ := r
    exact ⟨p, vs, rfl, h.sub _ _ hp, q⟩
  | ref a =>
    have e' : (match μ a with
      | some (.lst ds) => some ds
      | _ => none) = some ds := e
    cases hm : μ a with
    | none => rw [hm] at e'; cases e'
    | some m =>
      rw [hm] at e'
      cases m with
      | lst es =>
        cases e'
        obtain ⟨_, o, ho, vs, rfl, q⟩ := h.muts _ _ hm
        exact ⟨a, vs, r, ho, q⟩
      | dK _ => cases e'
  | _ => cases e
theorem ritems_ok (h : HM K mg H I F μ) {x : D} {v : V} {ds : List D} (r : Rep K mg I x v) (e : ritems μ x = some ds) : ∃ p vs, v = .ref p ∧ SqL K H p vs ∧ Reps K mg I ds vs := by
  have go : litems μ x = some ds → ∃ p vs, v = .ref p ∧ SqL K H p vs ∧ Reps K mg I ds vs := fun e => by
    obtain ⟨p, vs, h1, h2, h3⟩ := litems_ok h r e
    exact ⟨p, vs, h1, SqL.of h2, h3⟩
  cases x with
  | rd es =>
    have e' : es = ds := Option.some.inj e
    subst e'
    obtain ⟨p, vs, rfl, hp, q⟩ := r
    exact ⟨p, vs, rfl, h.sq hp, q⟩
  | _ => exact go e
theorem items_ok (h : HM K mg H I F μ) {x : D} {v : V} {ds : List D} (r : Rep K mg I x v) (e : items μ x = some ds) : ∃ p vs, v = .ref p ∧ (SqL K H p vs ∨ SqT K H p vs) ∧ Reps K mg I ds vs := by
  have go : ritems μ x = some ds → ∃ p vs, v = .ref p ∧ (SqL K H p vs ∨ SqT K H p vs) ∧ Reps K mg I ds vs := fun e => by
    obtain ⟨p, vs, h1, h2, h3⟩ := ritems_ok h r e
    exact ⟨p, vs, h1, .inl h2, h3⟩
  cases x with
  | tup es =>
    have e' : es = ds := Option.some.inj e
    subst e'
    obtain ⟨p, vs, rfl, hp, q⟩ := r
    exact ⟨p, vs, rfl, .inr (SqT.of (h.sub _ _ hp)), q⟩
  | _ => exact go e
theorem kitems_ok (h : HM K mg H I F μ) {x : D} {v : V} {ks : List (Key × D)} (r : Rep K mg I x v) (e : kitems μ x = some ks) : ∃ p ws, v = .ref p ∧ Rd H p (.dK ws) ∧ RepK K mg I ks ws := by
  cases x with
  | dK es =>
    have e' : es = ks := Option.some.inj e
    subst e'
    obtain ⟨p, vs, rfl, hp, q⟩ := r
    exact ⟨p, vs, rfl, h.rd hp, q⟩
  | ref a =>
    have e' : (match μ a with
      | some (.dK ds) => some ds
      | _ => none) = some ks := e
    cases hm : μ a with
    | none => rw [hm] at e'; cases e'
    | some m =>
      rw [hm] at e'
      cases m with
      | dK es =>
        cases e'
        obtain ⟨_, o, ho, vs, rfl, q⟩ := h.muts _ _ hm
        exact ⟨a, vs, r, .inl ho, q⟩
      | lst _ => cases e'
  | _ => cases e

/-! ### dicts -/
theorem RepK.look : ∀ {ks : List (Key × D)} {ws : List (Key × V)} (k : Key), RepK K mg I ks ws → (lookK ks k = none ∧ valV ws k = none) ∨ ∃ d v, lookK ks k = some d ∧ valV ws k = some v ∧ Rep K mg I d v
  | [], _, k, r => by rw [show _ = [] from r]; exact .inl ⟨rfl, rfl⟩
  | (j, d) :: ks, _, k, r => by
    obtain ⟨v, w, rfl, r1, r2⟩ := r
    by_cases e : j = k
    · subst e
      exact .inr ⟨d, v, by simp [lookK], by simp [valV], r1⟩
    · have h1 : lookK ((j, d) :: ks) k = lookK ks k := by simp [lookK, List.find?_cons, e]
      rw [h1, valV_neg (show ¬ ((j, d) : Key × D).1 = k from e)]
      exact RepK.look k r2
theorem RepK.anyk : ∀ {ks : List (Key × D)} {ws : List (Key × V)} (k : Key), RepK K mg I ks ws → (ks.any fun kv => decide (kv.1 = k)) = (ws.any fun kv => decide (kv.1 = k))
  | [], _, k, r => by rw [show _ = [] from r] <;> rfl
  | (j, d) :: ks, _, k, r => by
    obtain ⟨v, w, rfl, r1, r2⟩ := r
    rw [List.any_cons, List.any_cons, RepK.anyk k r2]
theorem RepK.length : ∀ {ks : List (Key × D)} {ws : List (Key × V)}, RepK K mg I ks ws → ws.length = ks.length
  | [], _, r => by rw [show _ = [] from r] <;> rfl
  | (j, d) :: ks, _, r => by
    obtain ⟨v, w, rfl, r1, r2⟩ := r
    rw [List.length_cons, List.length_cons, RepK.length r2]
theorem RepK.repl {d : D} {v : V} (h : Rep K mg I d v) (k : Key) : ∀ {ks : List (Key × D)} {ws : List (Key × V)}, RepK K mg I ks ws →
    RepK K mg I (ks.map fun kv => if kv.1 = k then (kv.1, d) else kv) (ws.map fun kv => if kv.1 = k then (kv.1, v) else kv)
  | [], _, r => by rw [show _ = [] from r]; exact rfl
  | (j, e) :: ks, _, r => by
    obtain ⟨u, w, rfl, r1, r2⟩ := r
    have ih := RepK.repl h k r2
    rw [List.map_cons, List.map_cons]
    by_cases e : j = k
    · subst e
      simp only [if_true]
      exact ⟨v, _, rfl, h, ih⟩
    · simp only [if_neg e]
      exact ⟨u, _, rfl, r1, ih⟩
theorem RepK.snoc {d : D} {v : V} (h : Rep K mg I d v) (k : Key) : ∀ {ks : List (Key × D)} {ws : List (Key × V)}, RepK K mg I ks ws → RepK K mg I (ks ++ [(k, d)]) (ws ++ [(k, v)])
  | [], _, r => by rw [show _ = [] from r]; exact ⟨v, [], rfl, h, rfl⟩
  | (j, e) :: ks, _, r => by
    obtain ⟨u, w, rfl, r1, r2⟩ := r
    exact ⟨u, _, rfl, r1, RepK.snoc h k r2⟩
theorem RepK.put {ks : List (Key × D)} {ws : List (Key × V)} {d : D} {v : V} (r : RepK K mg I ks ws) (k : Key) (h : Rep K mg I d v) : RepK K mg I (setK ks k d) (putK ws k v) := by
  unfold setK putK
  rw [← r.anyk k]
  by_cases e : (ks.any fun kv => decide (kv.1 = k)) = true
  · rw [if_pos e, if_pos e]; exact RepK.repl h k r
  · rw [if_neg e, if_neg e]; exact RepK.snoc h k r
theorem key_ok {x : D} {v : V} {k : Key} (r : Rep K mg I x v) (e : keyOf x = some k) : v = kV k := by
  cases x with
  | int i => cases e; exact r
  | str i => cases e; exact r
  | _ => cases e

/-! ### what a reading wants -/
def KE (K : PySem.W.Frag) (mg : Str → Option Value) (I F : Hp) (R : RD) (Q : VK) : Prop := ∀ I' H' μ' d v, Ext I I' → HM K mg H' I' F μ' → Rep K mg I' d v → R d μ' → Q v H'
def KL (K : PySem.W.Frag) (mg : Str → Option Value) (I F : Hp) (R : List D → Mu → Prop) (Q : List V → Hp → Prop) : Prop := ∀ I' H' μ' d v, Ext I I' → HM K mg H' I' F μ' → Reps K mg I' d v → R d μ' → Q v H'
def KB (K : PySem.W.Frag) (mg : Str → Option Value) (I F : Hp) (R : Bool → Mu → Prop) (Q : Bool → Hp → Prop) : Prop := ∀ I' H' μ' b, Ext I I' → HM K mg H' I' F μ' → R b μ' → Q b H'
def KO (K : PySem.W.Frag) (mg : Str → Option Value) (I F : Hp) (R : Option Int → Mu → Prop) (Q : Option Int → Hp → Prop) : Prop := ∀ I' H' μ' b, Ext I I' → HM K mg H' I' F μ' → R b μ' → Q b H'
theorem KE.mono {I' : Hp} {R : RD} {Q : VK} (k : KE K mg I F R Q) (x : Ext I I') : KE K mg I' F R Q := fun I2 H2 μ2 d v e => k I2 H2 μ2 d v (x.trans e)
theorem KL.mono {I' : Hp} {R : List D → Mu → Prop} {Q : List V → Hp → Prop} (k : KL K mg I F R Q) (x : Ext I I') : KL K mg I' F R Q := fun I2 H2 μ2 d v e => k I2 H2 μ2 d v (x.trans e)
theorem KB.mono {I' : Hp} {R : Bool → Mu → Prop} {Q : Bool → Hp → Prop} (k : KB K mg I F R Q) (x : Ext I I') : KB K mg I' F R Q := fun I2 H2 μ2 d e => k I2 H2 μ2 d (x.trans e)
theorem KO.mono {I' : Hp} {R : Option Int → Mu → Prop} {Q : Option Int → Hp → Prop} (k : KO K mg I F R Q) (x : Ext I I') : KO K mg I' F R Q := fun I2 H2 μ2 d e => k I2 H2 μ2 d (x.trans e)

theorem mkL_ok {m : Bool} {ds : List D} {vs : List V} {R : RD} {Q : VK} (h : HM K mg H I F μ) (k : KE K mg I F R Q) (r : Reps K mg I ds vs) (s : mkL m ds μ R) : ∀ p, H p = none → Q (.ref p) (upd H p (.lst vs)) := fun p hp => by
  cases m with
  | true => exact k I _ _ (.ref p) _ (Ext.refl I) (h.newM (m := .lst ds) hp ⟨vs, rfl, r⟩) rfl (s p (h.mnone hp))
  | false =>
    obtain ⟨h2, x⟩ := h.new (o := .lst vs) hp
    exact k _ _ _ (.lst ds) _ x h2 ⟨p, vs, rfl, upd_same, Reps.mono x _ _ r⟩ s
theorem mkK_ok {m : Bool} {ks : List (Key × D)} {ws : List (Key × V)} {R : RD} {Q : VK} (h : HM K mg H I F μ) (k : KE K mg I F R Q) (r : RepK K mg I ks ws) (s : mkK m ks μ R) : ∀ p, H p = none → Q (.ref p) (upd H p (.dK ws)) := fun p hp => by
  cases m with
  | true => exact k I _ _ (.ref p) _ (Ext.refl I) (h.newM (m := .dK ks) hp ⟨ws, rfl, r⟩) rfl (s p (h.mnone hp))
  | false =>
    obtain ⟨h2, x⟩ := h.new (o := .dK ws) hp
    exact k _ _ _ (.dK ks) _ x h2 ⟨p, ws, rfl, .inl upd_same, RepK.mono x _ _ r⟩ s
theorem tup_ok {ds : List D} {vs : List V} {R : RD} {Q : VK} (h : HM K mg H I F μ) (k : KE K mg I F R Q) (r : Reps K mg I ds vs) (s : R (.tup ds) μ) : ∀ p, H p = none → Q (.ref p) (upd H p (.tup vs)) := fun p hp => by
  obtain ⟨h2, x⟩ := h.new (o := .tup vs) hp
  exact k _ _ _ (.tup ds) _ x h2 ⟨p, vs, rfl, upd_same, Reps.mono x _ _ r⟩ s
theorem val_ok {d : D} {v : V} {R : RD} {Q : VK} (h : HM K mg H I F μ) (k : KE K mg I F R Q) (r : Rep K mg I d v) (s : R d μ) : Q v H := k I H μ d v (Ext.refl I) h r s

/-! ### + - * // % ** -/
def rAddA (K : PySem.W.Frag) : R2 := fun x y H Q => (∃ i j, x = .int i ∧ y = .int j ∧ Q (.int (i + j)) H) ∨ rCat x y H Q ∨ rCatA K x y H Q ∨
  ∃ i j, x = .str i ∧ y = .str j ∧ i.length + j.length ≤ sizeLine ∧ Q (.str (i ++ j)) H
def rMulA : R2 := fun x y H Q => rI CMul (fun i j => .int (i * j)) x y H Q ∨ rRep x y H Q
def rBin (K : PySem.W.Frag) : BOp → R2
  | .add => rAddA K
  | .sub => rI0 fun i j => .int (i - j)
  | .mul => rMulA
  | .fdiv => rI CDiv fun i j => .int (i / j)
  | .mod => rI (fun _ j => 0 < j) fun i j => .int (i % j)
  | .pow => rI CPow fun i j => .int (i ^ j.toNat)
def pyOp : BOp → Operator
  | .add => .Add
  | .sub => .Sub
  | .mul => .Mult
  | .fdiv => .FloorDiv
  | .mod => .Mod
  | .pow => .Pow
theorem bin_rule {X : Cx} : ∀ o : BOp, OpR X (binaryOp (pyOp o)) (rBin X.K o)
  | .add => by
    refine OpR.or op_add (OpR.or op_cat (OpR.or op_catA op_add_str))
  | .sub => op_sub
  | .mul => OpR.or op_mul op_rep
  | .fdiv => op_fdiv
  | .mod => op_mod
  | .pow => op_pow
theorem rep_int {d : D} {v : V} {i : Int} (e : d = .int i) (r : Rep K mg I d v) : v = .int i := by subst e; exact r
theorem bin_ok {o : BOp} {m : Bool} {x y : D} {a b : V} {R : RD} {Q : VK} (h : HM K mg H I F μ) (k : KE K mg I F R Q) (rx : Rep K mg I x a) (ry : Rep K mg I y b) (s : opBin o m x y μ R) : rBin K o a b H Q := by
  have L := lim_le
  have cat : (∃ xs ys, litems μ x = some xs ∧ litems μ y = some ys ∧ xs.length + ys.length ≤ lim ∧ mkL m (xs ++ ys) μ R) → rAddA K a b H Q := fun ⟨xs, ys, h1, h2, h3, h4⟩ => by
    obtain ⟨p, vs, rfl, hp, q⟩ := litems_ok h rx h1
    obtain ⟨p2, vs2, rfl, hp2, q2⟩ := litems_ok h ry h2
    exact .inr (.inl ⟨p, p2, vs, vs2, rfl, rfl, hp, hp2, by rw [q.length, q2.length]; omega, mkL_ok h k (q.append q2) h4⟩)
  have rep : (∃ (xs : List D) (n : Int), y = .int n ∧ litems μ x = some xs ∧ n ≤ lim ∧ -(2 ^ 63) ≤ n ∧ xs.length * n.toNat ≤ lim ∧ mkL m (List.replicate n.toNat xs).flatten μ R) → rMulA a b H Q := fun ⟨xs, n, e0, h1, h2, h3, h4, h5⟩ => by
    obtain ⟨p, vs, rfl, hp, q⟩ := litems_ok h rx h1
    subst e0
    refine .inr ⟨p, n, vs, rfl, ry, hp, h3, ?_, by rw [q.length]; omega, mkL_ok h k (q.rep _) h5⟩
    have h2' : n ≤ ((1000000 : Nat) : Int) := h2
    omega
  cases o with
  | add =>
    cases x with
    | int i =>
      cases y with
      | int j => exact .inl ⟨i, j, rx, ry, val_ok h k (d := .int (i + j)) rfl s⟩
      | _ => exact cat s
    | tup xs =>
      cases y with
      | tup ys =>
        obtain ⟨h1, h2⟩ := s
        obtain ⟨p, vs, rfl, hp, q⟩ := rx
        obtain ⟨p2, vs2, rfl, hp2, q2⟩ := ry
        have l1 := q.length
        have l2 := q2.length
        refine .inr (.inr (.inl ⟨p, p2, vs, vs2, rfl, rfl, SqT.of (h.sub _ _ hp), SqT.of (h.sub _ _ hp2), by rw [l1, l2]; omega, fun e => ?_, fun _ e => ?_, fun _ _ => tup_ok h k (q.append q2) h2⟩))
        · rw [e] at l1
          have ex : xs = [] := by
            cases xs with
            | nil => rfl
            | cons _ _ => simp at l1
          rw [ex] at h2
          exact val_ok h k (d := .tup ys) ⟨p2, vs2, rfl, hp2, q2⟩ h2
        · rw [e] at l2
          have ex : ys = [] := by
            cases ys with
            | nil => rfl
            | cons _ _ => simp at l2
          rw [ex, List.append_nil] at h2
          exact val_ok h k (d := .tup xs) ⟨p, vs, rfl, hp, q⟩ h2
      | _ => exact cat s
    | str i =>
      cases y with
      | str j => exact .inr (.inr (.inr ⟨i, j, rx, ry, Nat.le_trans s.1 L, val_ok h k (d := .str (i ++ j)) rfl s.2⟩))
      | _ => exact cat s
    | _ => exact cat s
  | sub =>
    cases x with
    | int i =>
      cases y with
      | int j => exact ⟨i, j, rx, ry, val_ok h k (d := .int (i - j)) rfl s⟩
      | _ => cases s
    | _ => cases s
  | mul =>
    cases x with
    | int i =>
      cases y with
      | int j => exact .inl ⟨i, j, rx, ry, s.1, val_ok h k (d := .int (i * j)) rfl s.2⟩
      | _ => cases s
    | _ =>
      cases y with
      | int n =>
        obtain ⟨xs, s⟩ := s
        exact rep ⟨xs, n, rfl, s⟩
      | _ => cases s
  | fdiv =>
    cases x with
    | int i =>
      cases y with
      | int j => exact ⟨i, j, rx, ry, s.1, val_ok h k (d := .int (i / j)) rfl s.2⟩
      | _ => cases s
    | _ => cases s
  | mod =>
    cases x with
    | int i =>
      cases y with
      | int j => exact ⟨i, j, rx, ry, s.1, val_ok h k (d := .int (i % j)) rfl s.2⟩
      | _ => cases s
    | _ => cases s
  | pow =>
    cases x with
    | int i =>
      cases y with
      | int j => exact ⟨i, j, rx, ry, s.1, val_ok h k (d := .int (i ^ j.toNat)) rfl s.2⟩
      | _ => cases s
    | _ => cases s

/-! ### comparisons -/
theorem sqt_rep {ds : List D} {v : V} (h : HM K mg H I F μ) (r : Rep K mg I (.tup ds) v) : ∃ p vs, v = .ref p ∧ SqT K H p vs ∧ Reps K mg I ds vs := by
  obtain ⟨p, vs, rfl, hp, q⟩ := r
  exact ⟨p, vs, rfl, SqT.of (h.sub _ _ hp), q⟩
mutual
theorem dp_of (h : HM K mg H I F μ) : ∀ (d : D) (v : V) (p : PyData), Rep K mg I d v → toPy d = some p → Dp K H v p
  | .non, _, _, r, e => by cases r; cases e; exact .non
  | .bl b, _, _, r, e => by cases r; cases e; exact .bl b
  | .int b, _, _, r, e => by cases r; cases e; exact .int b
  | .str b, _, _, r, e => by cases r; cases e; exact .str b
  | .tup ds, _, _, r, e => by
    obtain ⟨a, vs, rfl, hp, q⟩ := r
    have e' : (toPys ds).map PyData.tuple = some _ := e
    obtain ⟨ps, e1, rfl⟩ := Option.map_eq_some_iff.mp e'
    exact .tup (SqT.of (h.sub _ _ hp)) (dps_of h ds vs ps q e1)
  | .lst ds, _, _, r, e => by
    obtain ⟨a, vs, rfl, hp, q⟩ := r
    have e' : (toPys ds).map PyData.list = some _ := e
    obtain ⟨ps, e1, rfl⟩ := Option.map_eq_some_iff.mp e'
    exact .lst (SqL.of (h.sub _ _ hp)) (dps_of h ds vs ps q e1)
  | .ref _, _, _, _, e => by cases e
  | .fn _, _, _, _, e => by cases e
  | .rd _, _, _, _, e => by cases e
  | .dK _, _, _, _, e => by cases e
theorem dps_of (h : HM K mg H I F μ) : ∀ (ds : List D) (vs : List V) (ps : List PyData), Reps K mg I ds vs → toPys ds = some ps → DpAll K H vs ps
  | [], _, _, r, e => by
    rw [show _ = [] from r]
    cases e
    exact .nil
  | d :: ds, _, _, r, e => by
    obtain ⟨v, w, rfl, r1, r2⟩ := r
    have e' : (match toPy d, toPys ds with
      | some p, some ps => some (p :: ps)
      | _, _ => none) = some _ := e
    cases e1 : toPy d with
    | none => rw [e1] at e'; cases e'
    | some p =>
      cases e2 : toPys ds with
      | none => rw [e1, e2] at e'; cases e'
      | some ps =>
        rw [e1, e2] at e'
        cases e'
        exact .cons (dp_of h d v p r1 e1) (dps_of h ds w ps r2 e2)
end
theorem dp_deref (h : HM K mg H I F μ) {d : D} {v : V} {p : PyData} (r : Rep K mg I d v) (e : toPy (derefL μ d) = some p) : Dp K H v p := by
  cases d with
  | ref a =>
    have e' : toPy (match μ a with
      | some (.lst ds) => .lst ds
      | _ => .ref a) = some p := e
    cases hm : μ a with
    | none => rw [hm] at e'; cases e'
    | some m =>
      cases m with
      | dK _ => rw [hm] at e'; cases e'
      | lst ds =>
        rw [hm] at e'
        obtain ⟨_, o, ho, vs, rfl, q⟩ := h.muts _ _ hm
        have e2 : (toPys ds).map PyData.list = some _ := e'
        obtain ⟨ps, e1, rfl⟩ := Option.map_eq_some_iff.mp e2
        cases r
        exact .lst (SqL.of ho) (dps_of h ds vs ps q e1)
  | _ => exact dp_of h _ v p r e
def rEqA (K : PySem.W.Frag) : R2 := fun x y H Q => rEq x y H Q ∨ rEqD K x y H Q
def rNeA (K : PySem.W.Frag) : R2 := fun x y H Q => rNe x y H Q ∨ rNeD K x y H Q
theorem eq_ok {x y : D} {a b : V} {R : Bool → Prop} {Q : VK} (h : HM K mg H I F μ) (rx : Rep K mg I x a) (ry : Rep K mg I y b) (k : ∀ c, R c → Q (.bl c) H) (s : opEq x y μ R) : rEqA K a b H Q := by
  unfold opEq at s
  cases hs : scalD x y with
  | true =>
    rw [hs] at s
    refine .inl ?_
    cases x with
    | int i =>
      cases y with
      | int j =>
        cases rx; cases ry
        refine ⟨rfl, ?_⟩
        have q := k _ s
        have e : eqS (.int i) (.int j) = decide (V.int i = V.int j) := by simp [eqS]
        rw [← e]; exact q
      | _ => cases hs
    | bl i =>
      cases y with
      | bl j =>
        cases rx; cases ry
        refine ⟨rfl, ?_⟩
        have q := k _ s
        have e : eqS (.bl i) (.bl j) = decide (V.bl i = V.bl j) := by simp [eqS]
        rw [← e]; exact q
      | _ => cases hs
    | str i =>
      cases y with
      | str j =>
        cases rx; cases ry
        refine ⟨rfl, ?_⟩
        have q := k _ s
        have e : eqS (.str i) (.str j) = decide (V.str i = V.str j) := by simp [eqS]
        rw [← e]; exact q
      | _ => cases hs
    | _ => cases hs
  | false =>
    rw [hs] at s
    obtain ⟨p, q, e1, e2, h1, h2, h3⟩ := s
    exact .inr ⟨p, q, dp_deref h rx e1, dp_deref h ry e2, h1, h2, k _ h3⟩
theorem ne_ok {x y : D} {a b : V} {R : Bool → Prop} {Q : VK} (h : HM K mg H I F μ) (rx : Rep K mg I x a) (ry : Rep K mg I y b) (k : ∀ c, R c → Q (.bl c) H) (s : opEq x y μ fun c => R (!c)) : rNeA K a b H Q := by
  have q : rEqA K a b H fun v H' => ∃ c, v = .bl c ∧ Q (.bl (!c)) H' := eq_ok h rx ry (fun c r => ⟨c, rfl, k _ r⟩) s
  rcases q with ⟨h1, c, e, q⟩ | ⟨p, q, h1, h2, h3, h4, c, e, q'⟩
  · refine .inl ⟨h1, ?_⟩
    have e' := V.bl.inj e
    rw [e']; exact q
  · refine .inr ⟨p, q, h1, h2, h3, h4, ?_⟩
    have e' := V.bl.inj e
    rw [e']; exact q'
def rLtA (K : PySem.W.Frag) : R2 := fun x y H Q => rI0 (fun i j => .bl (decide (i < j))) x y H Q ∨ (∃ i j, x = .str i ∧ y = .str j ∧ Q (.bl (decide (i.cps.toList < j.cps.toList))) H) ∨
  ∃ p q, Dp K H x p ∧ Dp K H y q ∧ PySem.W.alike p q = true ∧ p ≠ .none ∧ p.depth ≤ 60 ∧ Q (.bl (PySem.W.dataLt p q)) H
theorem op_ltD {X : Cx} (hu : X.A.units + 64 < cLine) : OpR X (compareOp .Lt) (fun x y H Q => ∃ p q, Dp X.K H x p ∧ Dp X.K H y q ∧ PySem.W.alike p q = true ∧ p ≠ .none ∧ p.depth ≤ 60 ∧ Q (.bl (PySem.W.dataLt p q)) H) := by
  intro pins s σ H x y v u Q I rx ry h
  obtain ⟨p, q, h1, h2, ha, hn, hd, hq⟩ := h
  obtain ⟨as, r1⟩ := Dp.reads I p x v h1 rx
  obtain ⟨bs, r2⟩ := Dp.reads I q y u h2 ry
  refine PySem.W.lt_data r1 r2 ha hn ?_ ⟨.bl _, H, I, rfl, hq⟩
  have := Nat.min_le_left p.depth q.depth
  omega
theorem lt_ok {x y : D} {a b : V} {R : Bool → Prop} {Q : VK} (h : HM K mg H I F μ) (rx : Rep K mg I x a) (ry : Rep K mg I y b) (k : ∀ c, R c → Q (.bl c) H) (s : opLt x y μ R) : rLtA K a b H Q := by
  have go : (∃ p q, toPy (derefL μ x) = some p ∧ toPy (derefL μ y) = some q ∧ PySem.W.alike p q = true ∧ p ≠ .none ∧ p.depth ≤ 60 ∧ R (PySem.W.dataLt p q)) → rLtA K a b H Q := fun ⟨p, q, e1, e2, h1, h2, h3, h4⟩ =>
    .inr (.inr ⟨p, q, dp_deref h rx e1, dp_deref h ry e2, h1, h2, h3, k _ h4⟩)
  cases x with
  | int i =>
    cases y with
    | int j => exact .inl ⟨i, j, rx, ry, k _ s⟩
    | _ => exact go s
  | str i =>
    cases y with
    | str j => exact .inr (.inl ⟨i, j, rx, ry, k _ s⟩)
    | _ => exact go s
  | _ => exact go s
theorem int_ok {f : Int → Int → Bool} {x y : D} {a b : V} {R : Bool → Prop} {Q : VK} (rx : Rep K mg I x a) (ry : Rep K mg I y b) (k : ∀ c, R c → Q (.bl c) H) (s : opInt f x y R) : rI0 (fun i j => .bl (f i j)) a b H Q := by
  cases x with
  | int i =>
    cases y with
    | int j => exact ⟨i, j, rx, ry, k _ s⟩
    | _ => cases s
  | _ => cases s
theorem flat_rep {d : D} {v : V} (r : Rep K mg I d v) (f : flatD d = true) : v = toV d ∧ flatV v = true := by
  cases d with
  | non => cases r; exact ⟨rfl, rfl⟩
  | bl b => cases r; exact ⟨rfl, rfl⟩
  | int b => cases r; exact ⟨rfl, rfl⟩
  | str b => cases r; exact ⟨rfl, rfl⟩
  | _ => cases f
theorem flat_reps : ∀ {ds : List D} {vs : List V}, Reps K mg I ds vs → ds.all flatD = true → vs = ds.map toV ∧ vs.all flatV = true
  | [], _, r, _ => by rw [show _ = [] from r]; exact ⟨rfl, rfl⟩
  | d :: ds, _, r, f => by
    obtain ⟨v, w, rfl, r1, r2⟩ := r
    rw [List.all_cons, Bool.and_eq_true] at f
    obtain ⟨e1, f1⟩ := flat_rep r1 f.1
    obtain ⟨e2, f2⟩ := flat_reps r2 f.2
    refine ⟨by rw [e1, e2] <;> rfl, ?_⟩
    rw [List.all_cons, f1, f2] <;> rfl
def tDIn (neg : Bool) : R2 := fun x y H Q => ∃ a o, y = .ref a ∧ DGet H a x o ∧ Q (.bl (if neg then !o.isSome else o.isSome)) H
theorem or_din {X : Cx} (hu : X.A.units + 1 < cLine) : OpR X (compareOp .In) (tDIn false) := by
  intro pins s σ H x y v u Q I rx ry h
  obtain ⟨a, o, rfl, g, q⟩ := h
  cases (show u = Value.ref a from ry)
  exact d_in hu I g rx fun s' I' => ⟨.bl o.isSome, H, I', rfl, q⟩
theorem or_dnotin {X : Cx} (hu : X.A.units + 1 < cLine) : OpR X (compareOp .NotIn) (tDIn true) := by
  intro pins s σ H x y v u Q I rx ry h
  obtain ⟨a, o, rfl, g, q⟩ := h
  cases (show u = Value.ref a from ry)
  exact d_notIn hu I g rx fun s' I' => ⟨.bl (!o.isSome), H, I', rfl, q⟩
theorem DGet.kr {H : Hp} {a : Addr} {kvs : List (Key × V)} {k : Key} (e : Rd H a (.dK kvs)) : DGet H a (kV k) (valV kvs k) := .inl ⟨kvs, k, e, rfl, rfl⟩
def rSign (neg : Bool) : R2 := fun x y H Q => ∃ (c : Nat) (z : Str), x = .str ⟨#[c]⟩ ∧ y = .str z ∧ Q (.bl (if neg then !decide (c ∈ z.cps.toList) else decide (c ∈ z.cps.toList))) H
def rInA (K : PySem.W.Frag) (neg : Bool) : R2 := fun x y H Q => rIn K neg x y H Q ∨ tDIn neg x y H Q ∨ rSign neg x y H Q
theorem in_ok {neg : Bool} {x y : D} {a b : V} {R : Bool → Prop} {Q : VK} (h : HM K mg H I F μ) (rx : Rep K mg I x a) (ry : Rep K mg I y b) (k : ∀ c, R c → Q (.bl c) H) (s : opIn x y μ fun c => R (if neg then !c else c)) : rInA K neg a b H Q := by
  rcases s with ⟨xs, e, f1, f2, s⟩ | ⟨ks, key, e, e2, s⟩ | ⟨c, z, rfl, rfl, s⟩
  · obtain ⟨p, vs, rfl, hp, q⟩ := items_ok h ry e
    obtain ⟨e1, g1⟩ := flat_rep rx f1
    obtain ⟨e2, g2⟩ := flat_reps q f2
    refine .inl ⟨p, vs, rfl, hp, g1, g2, ?_⟩
    have ee : inV a vs = inSeq x xs := by
      rw [e1, e2]
      unfold inV inSeq eqF
      rw [List.any_map] <;> rfl
    rw [ee]
    have q' := k _ s
    cases neg <;> exact q'
  · obtain ⟨p, ws, rfl, hp, q⟩ := kitems_ok h ry e
    rw [key_ok rx e2]
    refine .inr (.inl ⟨p, _, rfl, DGet.kr hp, ?_⟩)
    have ee : (valV ws key).isSome = hasK ks key := by
      unfold hasK
      rcases q.look key with ⟨h1, h2⟩ | ⟨d, v, h1, h2, _⟩ <;> rw [h1, h2] <;> rfl
    rw [ee]
    exact k _ s
  · refine .inr (.inr ⟨c, z, rx, ry, ?_⟩)
    have q := k _ s
    cases neg <;> exact q
def rIsA (neg : Bool) : R2 := fun x y H Q => (y = .non ∧ Q (.bl (if neg then !decide (x = .non) else decide (x = .non))) H) ∨ ∃ a b : Bool, x = .bl a ∧ y = .bl b ∧ Q (.bl (if neg then !decide (a = b) else decide (a = b))) H
theorem is_ok {neg : Bool} {x y : D} {a b : V} {R : Bool → Prop} {Q : VK} (rx : Rep K mg I x a) (ry : Rep K mg I y b) (k : ∀ c, R c → Q (.bl c) H) (s : opIs x y fun c => R (if neg then !c else c)) : rIsA neg a b H Q := by
  cases y with
  | non =>
    refine .inl ⟨ry, ?_⟩
    have e : decide (a = .non) = isNon x := by
      cases x with
      | non => cases rx; rfl
      | bl _ => cases rx; rfl
      | int _ => cases rx; rfl
      | str _ => cases rx; rfl
      | ref _ => cases rx; rfl
      | fn _ => obtain ⟨f, _, _, rfl⟩ := rx; rfl
      | tup _ => obtain ⟨f, _, rfl, _⟩ := rx; rfl
      | lst _ => obtain ⟨f, _, rfl, _⟩ := rx; rfl
      | rd _ => obtain ⟨f, _, rfl, _⟩ := rx; rfl
      | dK _ => obtain ⟨f, _, rfl, _⟩ := rx; rfl
    rw [e]
    have q := k _ s
    cases neg <;> exact q
  | bl b' =>
    cases x with
    | bl a' =>
      refine .inr ⟨a', b', rx, ry, ?_⟩
      have q := k _ s
      cases neg <;> exact q
    | _ => cases s
  | _ => cases s
def rCmp (K : PySem.W.Frag) : COp → R2
  | .eq => rEqA K
  | .ne => rNeA K
  | .lt => rLtA K
  | .le => rI0 fun i j => .bl (decide (i ≤ j))
  | .gt => rI0 fun i j => .bl (decide (j < i))
  | .ge => rI0 fun i j => .bl (decide (j ≤ i))
  | .isin => rInA K false
  | .notin => rInA K true
  | .is => rIsA false
  | .isnot => rIsA true
def pyCmp : COp → CmpOp
  | .eq => .Eq
  | .ne => .NotEq
  | .lt => .Lt
  | .le => .LtE
  | .gt => .Gt
  | .ge => .GtE
  | .isin => .In
  | .notin => .NotIn
  | .is => .Is
  | .isnot => .IsNot
theorem cmp_rule {X : Cx} (hu : X.A.units + 64 < cLine) : ∀ o : COp, OpR X (compareOp (pyCmp o)) (rCmp X.K o)
  | .eq => OpR.or op_eq (op_eqD hu)
  | .ne => OpR.or op_ne (op_neD hu)
  | .lt => OpR.or op_lt (OpR.or op_lt_str (op_ltD hu))
  | .le => op_le
  | .gt => op_gt
  | .ge => op_ge
  | .isin => OpR.or op_in_seq (OpR.or (or_din (by omega)) op_in_sign)
  | .notin => OpR.or op_notIn_seq (OpR.or (or_dnotin (by omega)) op_notIn_sign)
  | .is => OpR.or op_isN op_isBl
  | .isnot => OpR.or op_notN op_notBl
theorem cmp_ok {o : COp} {x y : D} {a b : V} {R : Bool → Prop} {Q : VK} (h : HM K mg H I F μ) (rx : Rep K mg I x a) (ry : Rep K mg I y b) (k : ∀ c, R c → Q (.bl c) H) (s : opCmp o x y μ R) : rCmp K o a b H Q := by
  cases o with
  | eq => exact eq_ok h rx ry k s
  | ne => exact ne_ok h rx ry k s
  | lt => exact lt_ok h rx ry k s
  | le => exact int_ok rx ry k s
  | gt => exact int_ok rx ry k s
  | ge => exact int_ok rx ry k s
  | isin => exact in_ok (neg := false) h rx ry k s
  | notin => exact in_ok (neg := true) h rx ry k s
  | is => exact is_ok (neg := false) rx ry k s
  | isnot => exact is_ok (neg := true) rx ry k s
end
end PL
/-! PG1: sorted(list or tuple) of alike data. -/
namespace PL
open PySem PySem.Spec PyProof.Rows L2 PySem.W PySem.Calls
section
variable {prog : Program} {w : World} {A : Around} {E : Value → Shared → Prop} {s : Shared} {β : Type} {vs : List Value} {bs : List β} {enc : β → PyData} {R : Value → β → Prop}
theorem sorted_seq {it : Addr} {T : String} {o : Obj} {n : Nat} {Q : Value → Shared → Prop} (hT : T = "list" ∨ T = "tuple") (ho : s.heap.get? it = some o) (hc : o.cls = .type T) (hd : o.data = .seq vs.toArray n)
    (e : EachIs R vs bs) (er : EachIs (fun v b => ∃ as, Reads s.heap v (enc b) as) vs bs) (hal : AllAlike (bs.map enc)) (hk : Sortable (bs.map enc)) (hL : bs.length ≤ sizeLine) (hu : ∀ b, b ∈ bs → A.units + 2 + (enc b).depth < cLine)
    (h : ∀ (h' : Heap) (a : Addr) (out : List Value) (ep : Nat), s.heap.get? a = none → (∀ b o, s.heap.get? b = some o → h'.get? b = some o) → h'.get? a = some (seqObj "list" out.toArray ep) → out.length = bs.length → EachIs R out (bs.mergeSort (dataLe false enc)) → Q (.ref a) { s with heap := h' }) :
    wpAny (model prog w) A (call (.builtin "sorted") [.ref it]) Q E s := by
  have hV : vs.length ≤ sizeLine := by rw [e.length]; exact hL
  refine call_function_entry_kw kind_sorted plain_sorted entry_sorted (args_sorted1 _) ?_
  unfold Builtin.«sorted»
  refine wpAny_bind (m := checkCount "sorted" 1 1 _) (wpAny_pure ?_)
  refine wpAny_bind (wpAny_collect_seq it hT ho hc hd (fun h1 k => ?_) (by rw [List.size_toArray]; exact hV))
  rw [show vs.toArray.toList = vs from rfl]
  refine wpAny_bind (wpAny_newList ?_ hV)
  have at1 : (h1.push (seqObj "list" vs.toArray 0)).get? h1.objs.size = some (seqObj "list" vs.toArray 0) := Heap.get?_push_size _ rfl
  have old1 : ∀ b o, s.heap.get? b = some o → (h1.push (seqObj "list" vs.toArray 0)).get? b = some o := fun b o q => Heap.get?_push_of_some _ (k b o q)
  have le1 : s.heap.get? h1.objs.size = none := by
    cases z : s.heap.get? h1.objs.size with
    | none => rfl
    | some o => exact absurd (Heap.lt_size (k _ _ z)) (Nat.lt_irrefl _)
  have ne1 : ∀ b o, s.heap.get? b = some o → b ≠ h1.objs.size := fun b o q => Nat.ne_of_lt (Heap.lt_size (k b o q))
  have er' : EachIs (fun v b => ∃ as, Reads (sortingHeap (h1.push (seqObj "list" vs.toArray 0)) h1.objs.size vs) v (enc b) as) vs bs := er.mono fun _ _ ⟨as, r⟩ => ⟨as, PyProof.Rows.Reads.keeps (fun b o q => sortingHeap_old (ne1 b o q) (old1 b o q)) r⟩
  show wpAny _ _ _ _ _ { s with heap := h1.push (seqObj "list" vs.toArray 0) }
  refine wpAny_bind (wpAny_holding (wpAny_call_entry_kw slot_list_sort ⟨_, at1, rfl⟩ entry_list_sort ?body (args_list_sort _)))
  case body =>
    show wpAny (model prog w) A.in1.in1 (Builtin.«list.sort» ⟨[.ref h1.objs.size], []⟩) _ _ _
    refine list_sort_vals (s := { s with heap := h1.push (seqObj "list" vs.toArray 0) }) at1 (SortsAt.data (s := { s with heap := sortingHeap (h1.push (seqObj "list" vs.toArray 0)) h1.objs.size vs }) (each_map (R := fun v d => ∃ as, Reads (sortingHeap (h1.push (seqObj "list" vs.toArray 0)) h1.objs.size vs) v d as) enc er') hal hk (bound_map hu)) hV ?_
    refine ⟨_, rfl, wpAny_pure ⟨_, rfl, ?_⟩⟩
    obtain ⟨ep, hat⟩ := sortedHeap_at (out := (sortVals (dataKind (sortingHeap (h1.push (seqObj "list" vs.toArray 0)) h1.objs.size vs) (bs.map enc)) false vs vs).toArray) at1
    refine h _ _ _ ep le1 (fun b o q => ?_) hat (by rw [sortVals_length false rfl]; exact e.length) (sortVals_data false e er' hal)
    rw [sortedHeap_old (ne1 b o q) (Heap.lt_size (old1 b o q))]
    exact old1 b o q
end
section
variable {X : Cx}
theorem vals_each {β : Type} {val : β → V} : ∀ {bs : List β} {us : List Value}, Vals (bs.map val) us → EachIs (fun u b => RelV (val b) u) us bs
  | [], _, .nil => .nil
  | b :: bs, _, .cons r t => .cons r (vals_each t)
theorem each_vals {β : Type} {val : β → V} : ∀ {bs : List β} {us : List Value}, EachIs (fun u b => RelV (val b) u) us bs → Vals (bs.map val) us
  | [], _, .nil => .nil
  | b :: bs, _, .cons r t => .cons r (each_vals t)
theorem each_mem' {α β : Type} {R : α → β → Prop} {P : α → β → Prop} : ∀ {us : List α} {bs : List β}, EachIs R us bs → (∀ u b, b ∈ bs → R u b → P u b) → EachIs P us bs
  | _, _, .nil, _ => .nil
  | _, _, .cons r t, h => .cons (h _ _ List.mem_cons_self r) (each_mem' t fun u b hb => h u b (List.mem_cons_of_mem _ hb))
/-- sorted(xs), xs a list or tuple of alike data -/
def rSortedD (K : PySem.W.Frag) : List V → Hp → VK → Prop := fun vs H Q => ∃ (a : Addr) (β : Type) (bs : List β) (val : β → V) (enc : β → PyData), vs = [V.ref a] ∧ (SqL K H a (bs.map val) ∨ SqT K H a (bs.map val)) ∧
  (∀ b ∈ bs, Dp K H (val b) (enc b)) ∧ AllAlike (bs.map enc) ∧ Sortable (bs.map enc) ∧ (∀ b ∈ bs, (enc b).depth ≤ 60) ∧
  ∀ p, H p = none → Q (.ref p) (upd H p (.lst ((bs.mergeSort (dataLe false enc)).map val)))
theorem cr_sortedD (hu : X.A.units + 64 < cLine) : CallR X (.builtin "sorted") (rSortedD X.K) := by
  intro pins s σ H vs us Q I r h
  obtain ⟨a, β, bs, val, enc, rfl, hs, hdp, hal, hk, hdep, q⟩ := h
  rw [Vals.ref1 r]
  have key : ∀ {its : List Value} {T : String} {o : Obj} {n : Nat}, (T = "list" ∨ T = "tuple") → s.heap.get? a = some o → o.cls = .type T → o.data = .seq its.toArray n → Vals (bs.map val) its → (bs.map val).length ≤ sizeLine →
      wpAny (model X.prog X.w) X.A (call (.builtin "sorted") [.ref a]) (EP X pins σ Q) X.xe s := fun {its T o n} hT ho hc hd rv hz => by
    have e := vals_each rv
    rw [List.length_map] at hz
    refine sorted_seq (R := fun u b => RelV (val b) u) (enc := enc) hT ho hc hd e (each_mem' e fun u b hb rb => Dp.reads I (enc b) (val b) u (hdp b hb) rb) hal hk hz (fun b hb => by have := hdep b hb; omega) fun h' p out ep hle hkp hat hlen eo => ?_
    have hn : H p = none := I.hok.gone hle
    exact ⟨.ref p, upd H p (.lst ((bs.mergeSort (dataLe false enc)).map val)), I.laidN (t' := s.toks) (fun b o q => hkp b o q) hle hn ⟨by rw [List.length_map, List.length_mergeSort]; exact hz, out, ep, each_vals eo, hat⟩, rfl, q p hn⟩
  rcases hs with hs | hs
  · obtain ⟨its, rv, hl, hz⟩ := I.list hs
    obtain ⟨o, n, ho, hc, _, hd⟩ := hl
    exact key (.inl rfl) ho hc hd rv hz
  · obtain ⟨its, rv, ht, hz⟩ := I.tuple hs
    obtain ⟨o, ho, hc, n, hd⟩ := ht
    exact key (.inr rfl) ho hc hd rv hz
end
end PL
/-! PG2: t[::-1]; len(set); items of a tuple numbered. -/
namespace PL
open PySem PySem.Spec PyProof.Rows L2 PySem.W PySem.Calls
section
variable {prog : Program} {w : World} {A : Around} {E : Value → Shared → Prop} {s : Shared}
theorem fm_congr {α β : Type} {f g : α → Option β} : ∀ {l : List α}, (∀ x, x ∈ l → f x = g x) → l.filterMap f = l.filterMap g
  | [], _ => rfl
  | x :: l, h => by
    rw [List.filterMap_cons, List.filterMap_cons, h x List.mem_cons_self, fm_congr fun y hy => h y (List.mem_cons_of_mem _ hy)]
theorem rev_pick (xs : Array Value) : ((List.range xs.size).filterMap fun (m : Nat) => xs[(((xs.size : Int) - 1) + (m : Int) * (-1)).toNat]?).toArray = xs.toList.reverse.toArray := by
  have e : (List.range xs.size).filterMap (fun (m : Nat) => xs[(((xs.size : Int) - 1) + (m : Int) * (-1)).toNat]?) = ((List.range xs.size).map fun k => xs.size - 1 - k).filterMap (xs[·]?) := by
    rw [List.filterMap_map]
    refine fm_congr fun k hk => ?_
    have hk := List.mem_range.mp hk
    have : (((xs.size : Int) - 1) + (k : Int) * (-1)).toNat = xs.size - 1 - k := by omega
    rw [this] <;> rfl
  rw [e, krv_range, List.filterMap_reverse, krv_all]
theorem rev_applied {sl : Addr} {vl vu vs : Value} {n : Nat} {Q : Int × Int × Nat → Shared → Prop} (hs : s.heap.IsSliceOf sl vl vu vs) (pl : IsPart vl none) (pu : IsPart vu none) (ps : IsPart vs (some (-1)))
    (h : Q ((n : Int) - 1, -1, n) s) : wpAny (model prog w) A (Builtin.Slice.sliceApplied (.ref sl) (pure (n : Int))) Q E s := by
  obtain ⟨os, hos, hcs, hds⟩ := id hs
  unfold Builtin.Slice.sliceApplied Builtin.Slice.sliceFields
  refine wpAny_bind (wpAny_bind (wpAny_field hos hds (x := vl) rfl (wpAny_bind (wpAny_field hos hds (x := vu) rfl (wpAny_bind (wpAny_field hos hds (x := vs) rfl (wpAny_pure ?_)))))))
  refine wpAny_bind (HT.slicePart_ ps ?_)
  show wpAny _ _ (if ((-1 : Int) == 0) = true then _ else _) _ _ s
  rw [if_neg (by decide)]
  refine wpAny_bind (HT.slicePart_ pl (wpAny_bind (HT.slicePart_ pu (wpAny_bind (wpAny_pure ?_)))))
  show wpAny _ _ (match Builtin.Slice.sliceAdjust none none (-1) (n : Int) with | (lo, hi) => pure (lo, (-1 : Int), Builtin.Slice.slicePlaces lo hi (-1))) _ _ s
  have ha : Builtin.Slice.sliceAdjust none none (-1) (n : Int) = ((n : Int) - 1, -1) := by
    unfold Builtin.Slice.sliceAdjust
    rfl
  rw [ha]
  show wpAny _ _ (pure ((n : Int) - 1, (-1 : Int), Builtin.Slice.slicePlaces ((n : Int) - 1) (-1) (-1))) _ _ s
  have hp : Builtin.Slice.slicePlaces ((n : Int) - 1) (-1) (-1) = n := by
    unfold Builtin.Slice.slicePlaces
    have h1 : ¬ ((-1 : Int) > 0) := by decide
    simp only [h1, if_false]
    by_cases h2 : (n : Int) - 1 > -1
    · rw [if_pos h2, show (- -1 : Int) = 1 by decide, Int.ediv_one]
      omega
    · rw [if_neg h2]
      omega
  rw [hp]
  exact wpAny_pure h
theorem getItem_tuple_rev {t sl : Addr} {items : Array Value} {vl vu vs : Value} {Q : Value → Shared → Prop} (ht : IsTup s.heap t items) (hs : s.heap.IsSliceOf sl vl vu vs) (pl : IsPart vl none) (pu : IsPart vu none) (ps : IsPart vs (some (-1)))
    (h : Q (.ref s.heap.objs.size) { s with heap := s.heap.push { cls := .type "tuple", data := .seq items.toList.reverse.toArray } }) (hsz : items.size ≤ sizeLine) : wpAny (model prog w) A (getItem (.ref t) (.ref sl)) Q E s := by
  obtain ⟨os, hos, hcs, hds⟩ := id hs
  have hTs : s.TypeIs (.ref sl) "slice" := ⟨os, hos, hcs⟩
  have hz : sizeOk (.seq items.toList.reverse.toArray) := by
    show items.toList.reverse.toArray.size ≤ sizeLine
    rw [List.size_toArray, List.length_reverse, Array.length_toList]
    exact hsz
  unfold getItem
  try with_reducible refine wpAny_holding ?_
  first | refine wpAny_bind (wpAny_pure ?_) | skip
  refine wpAny_bind (wpAny_sequenceKey ht.typeIs (by decide) ?_)
  refine wpAny_bind (wpAny_callSpecial?_slot (name := Str.ofString "__getitem__") ht.typeIs PyProof.Rows.slot_tuple_getitem (wpAny_call_entry PyProof.Rows.slot_tuple_getitem ht.typeIs entry_tuple_getitem ?_ (args_tuple_getitem _ _)))
  show wpAny _ _ (Builtin.Tuple.tupleItemsOf (.ref t) >>= _) _ _ s
  refine wpAny_bind (tupleItemsOf_ ht ?_)
  refine wpAny_bind (wpAny_typeOf hTs ?_)
  rw [if_pos (by decide)]
  refine wpAny_bind (rev_applied hs pl pu ps ?_)
  show wpAny _ _ (if (((items.size : Int) - 1) == 0 && (-1 : Int) == 1 && items.size == items.size) = true then _ else _) _ _ s
  rw [if_neg (by rw [show ((-1 : Int) == 1) = false from rfl, Bool.and_false, Bool.false_and]; exact Bool.false_ne_true), rev_pick]
  first
    | exact wpAny_bind (m := Builtin.Tuple.tupleExact _) (wpAny_newObj_type (wpAny_pure ⟨_, rfl, wpAny_pure h⟩) hz)
    | exact wpAny_bind (m := Builtin.Tuple.tupleExact _) (wpAny_newObj_type (wpAny_bind (wpAny_pure (wpAny_pure ⟨_, rfl, wpAny_pure h⟩))) hz)
    | exact wpAny_bind (wpAny_bind (m := Builtin.Tuple.tupleExact _) (wpAny_newObj_type (wpAny_pure (wpAny_pure ⟨_, rfl, wpAny_pure h⟩)) hz))
    | exact wpAny_bind (wpAny_bind (m := Builtin.Tuple.tupleExact _) (wpAny_newObj_type (wpAny_pure ⟨_, rfl, wpAny_pure h⟩) hz))
end
section
variable {X : Cx}
/-- x[::-1] of a list, of a tuple -/
def tRevT (K : PySem.W.Frag) (te : TE) : TE := fun σ H Q => te σ H fun x H1 => ∃ a xs, x = .ref a ∧ ((SqL K H1 a xs ∧ ∀ p, H1 p = none → Q (.ref p) (upd H1 p (.lst xs.reverse))) ∨ (SqT K H1 a xs ∧ ∀ p, H1 p = none → Q (.ref p) (upd H1 p (.tup xs.reverse))))
theorem pe_revA {e : Expr} {te : TE} {k : Nat} {p1 p2 p3 pos : Pos} (he : PE X e te) : PE X (.Subscript e (.Slice none none (some (.UnaryOp .USub (.Constant (.int 1) k p1) p2)) p3) pos) (tRevT X.K te) := by
  refine ⟨fun pins s σ H Q I h => ?_⟩
  refine Subscript_ (thn (he.run pins s σ H _ I h) fun v s1 ⟨x, H1, I1, r1, a, xs, ex, q⟩ => ?_)
  subst ex
  cases r1
  have hst : PO X (some (.UnaryOp .USub (.Constant (.int 1) k p1) p2)) (tPart (tUn (rU fun i => .int (-i)) (tC (.int 1)))) := po_some (pe_un un_neg pe_int)
  refine wpAny_Slice (thn (po_none.run pins s1 σ H1 (fun o H2 => o = none ∧ H2 = H1) I1 ⟨rfl, rfl⟩) fun vl s2 ⟨l, H2, I2, pl, el, e2⟩ => ?_)
  subst el e2
  refine thn (po_none.run pins s2 σ H2 (fun o H3 => o = none ∧ H3 = H2) I2 ⟨rfl, rfl⟩) fun vu s3 ⟨u, H3, I3, pu, eu, e3⟩ => ?_
  subst eu e3
  refine thn (hst.run pins s3 σ H3 (fun o H4 => o = some (-1) ∧ H4 = H3) I3 ⟨1, rfl, -1, rfl, rfl, rfl⟩) fun vs s4 ⟨o, H4, I4, ps, eo, e4⟩ => ?_
  subst eo e4
  have I5 : Inv X pins σ H4 { s4 with heap := s4.heap.push { cls := .type "slice", data := .fields #[vl, vu, vs] } } := I4.kept (t' := s4.toks) fun b ob q => Heap.get?_push_of_some _ q
  show wpAny (model X.prog X.w) X.A (subscriptTail e (.Slice none none (some (.UnaryOp .USub (.Constant (.int 1) k p1) p2)) p3) (.ref a) (.ref s4.heap.objs.size)) (EP X pins σ Q) X.xe { s4 with heap := s4.heap.push { cls := .type "slice", data := .fields #[vl, vu, vs] } }
  rcases q with ⟨hx, q⟩ | ⟨hx, q⟩
  · obtain ⟨its, r, ht, hz⟩ := I5.list hx
    have hlen := r.length
    refine tail_any (ops := [.ref a, .ref s4.heap.objs.size]) ht.isList.typeIs (PySem.slot_list_getitem.lookup) ?_ (by with_unfolding_all rfl)
    refine wpAny_getItem_list_slice ht.isList (Heap.IsSliceOf.new _ vl vu vs) pl pu ps (by decide) ?_ (by rw [List.size_toArray]; omega)
    rw [PySem.W.krv_pick]
    refine ⟨.ref _, _, I5.laid (t' := s4.toks) (o := .lst xs.reverse) (fun b ob q => Heap.get?_push_of_some _ q) (Nat.le_refl _) ?_, rfl, q _ (I5.hok.fresh (Nat.le_refl _))⟩
    exact ⟨by rw [List.length_reverse]; exact hz, _, 0, r.reverse, Heap.get?_push_size _ rfl⟩
  · obtain ⟨its, r, ht, hz⟩ := I5.tuple hx
    have hlen := r.length
    refine tail_any (ops := [.ref a, .ref s4.heap.objs.size]) ht.typeIs (PyProof.Rows.slot_tuple_getitem.lookup) ?_ (by with_unfolding_all rfl)
    refine getItem_tuple_rev ht (Heap.IsSliceOf.new _ vl vu vs) pl pu ps ?_ (by rw [List.size_toArray]; omega)
    refine ⟨.ref _, _, I5.laid (t' := s4.toks) (o := .tup xs.reverse) (fun b ob q => Heap.get?_push_of_some _ q) (Nat.le_refl _) ?_, rfl, q _ (I5.hok.fresh (Nat.le_refl _))⟩
    exact ⟨by rw [List.length_reverse]; exact hz, _, r.reverse, IsTup.new _ _⟩
end
end PL
/-! PG3: set(list of ints) with its order; len of it. -/
namespace PL
open PySem PySem.Spec PyProof.Rows L2 PySem.W PySem.Calls
section
variable {P : Program} {w : World} {A : Around} {E : Value → Shared → Prop} {s : Shared}
set_option maxHeartbeats 3200000 in
theorem call_set_lstI {l : Addr} {items : Array Value} (ns : List Int) {Q : Value → Shared → Prop} (hh : A.handled = none) (hl : s.heap.IsList l items) (hit : IntsAre items.toList ns) (hb : ns.length + 1 < scanBound)
    (h : ∀ (h' : Heap) (tk c : Nat), SetR w h' s.heap.objs.size (fun j => decide (j ∈ ns)) c → c ≤ ns.length → (∀ b o, s.heap.get? b = some o → h'.get? b = some o) → Q (.ref s.heap.objs.size) { s with heap := h', toks := tk }) :
    wpAny (model P w) A (call (.type "set") [.ref l]) Q E s := by
  have hisz : items.size = ns.length := by
    have q := IntsAre.length hit
    rw [Array.length_toList] at q
    exact q
  obtain ⟨c, tl, hmro⟩ := F.called_set.mro
  have hmade := F.called_set.made
  have hsub := F.called_set.sub
  refine wpAny_call (codeAny_of_tree ?_)
  show wpAny _ _ (callAny (.type "set") _) _ _ _
  refine wpAny_pure ⟨Code.quiet_builtin _ (by decide +kernel), codeAny_builtin F.entry_type_call ?_⟩
  rw [Around.under_plain (weight_type_call_type "set" [.ref l] []) rfl]
  have h1 := F.called_set.notType
  have h2 := F.called_set.canCreate
  have hct := F.typeCall_set_1 (.ref l)
  repeat (any_goals (first | assumption | wp_step))

  refine codeAny_mono (code_set_led1 (.ref l) (E := E) (Q₁ := fun obj s₁ => obj = .ref s.heap.objs.size ∧ s₁ = { s with heap := s.heap.push { cls := .type "set", dict := none, data := .set #[] 0 (.fresh 0 0 (!w.params.followText "set-order")) } }) ⟨rfl, rfl⟩) fun r s₁ hr => ?_
  cases r with
  | error e => exact hr
  | ok fl =>
    cases fl with
    | ret obj =>
      obtain ⟨rfl, rfl⟩ := hr
      have hS : (s.heap.push { cls := .type "set", dict := none, data := .set #[] 0 (.fresh 0 0 (!w.params.followText "set-order")) }).get? s.heap.objs.size = some { cls := .type "set", dict := none, data := .set #[] 0 (.fresh 0 0 (!w.params.followText "set-order")) } := Heap.get?_push_size _ rfl
      have hT : Shared.TypeIs { s with heap := s.heap.push { cls := .type "set", dict := none, data := .set #[] 0 (.fresh 0 0 (!w.params.followText "set-order")) } } (.ref s.heap.objs.size) "set" := ⟨_, hS, rfl⟩
      have hli := F.called_set.init.lookup
      have hbi := F.called_set.init.bind (.ref s.heap.objs.size)
      repeat (any_goals (first | assumption | wp_step))

      refine codeAny_mono (codeAny_call_builtin (R := wants (fun r s₂ => r = .none ∧ ∃ h' tk c, s₂ = { s with heap := h', toks := tk } ∧ SetR w h' s.heap.objs.size (fun j => decide (j ∈ ns)) c ∧ c ≤ ns.length ∧
          (∀ b o, s.heap.get? b = some o → h'.get? b = some o)) E) F.called_set.init.plain F.entry_set_init (check_set_init_1 hT ?_)) fun r₂ s₂ hr₂ => ?_
      · obtain ⟨ol, hol, hcl, nl, hdl⟩ := hl
        obtain ⟨ocls, odict, odata, oslots⟩ := ol
        simp only at hcl hdl
        subst hcl; subst hdl
        have hol' : (s.heap.push { cls := .type "set", dict := none, data := .set #[] 0 (.fresh 0 0 (!w.params.followText "set-order")) }).get? l = some { cls := .type "list", dict := odict, data := .seq items nl, slots := oslots } := Heap.get?_push_of_some _ hol
        have hsls := F.sub_list_set
        have hslf := F.sub_list_frozenset
        have hne : (Value.type "list" == Value.type "dict") = false := by decide
        have hl1 : (s.heap.push { cls := .type "set", dict := none, data := .set #[] 0 (.fresh 0 0 (!w.params.followText "set-order")) }).IsList l items := ⟨_, hol', rfl, nl, rfl⟩
        unfold Builtin.«set.__init__» noKeywords Builtin.Frozenset.updateFrom
        generalize hPI : pyIter = PI
        wp_walk
        subst hPI

        refine wpAny_pyIter_list hl1 ?_
        refine wpAny_bind (wpAny_runValue ?_)
        have hlS : l < s.heap.objs.size := Heap.lt_size hol
        have hh3 : A.in1.in1.in1.handled = none := by simp [hh]
        have hz1 : (s.heap.push { cls := .type "set", dict := none, data := .set #[] 0 (.fresh 0 0 (!w.params.followText "set-order")) }).objs.size = s.heap.objs.size + 1 := Heap.size_push ..
        have hneI : l ≠ (s.heap.push { cls := .type "set", dict := none, data := .set #[] 0 (.fresh 0 0 (!w.params.followText "set-order")) }).objs.size := by
          rw [Heap.size_push]; exact Nat.ne_of_lt (Nat.lt_succ_of_lt hlS)
        have hSf : s.heap.objs.size ∉ [(s.heap.push { cls := .type "set", dict := none, data := .set #[] 0 (.fresh 0 0 (!w.params.followText "set-order")) }).objs.size, l] := by
          rw [Heap.size_push]; simp only [List.mem_cons, List.mem_singleton, List.not_mem_nil, or_false, not_or]
          exact ⟨Nat.ne_of_lt (Nat.lt_succ_self _), Nat.ne_of_gt hlS⟩
        have hval : ∀ (i : Nat) (v : Value), items[i]? = some v → ∃ k t, ns[i]? = some k ∧ v = .int k t := fun i v hv => by
          have hi : i < ns.length := by rw [← hisz]; exact (Array.getElem?_eq_some_iff.mp hv).1
          obtain ⟨t, e⟩ := PyProof.Rows.IntsAre.int_at hit i v (by rw [Array.getElem?_toList]; exact hv)
          refine ⟨ns[i], t, List.getElem?_eq_getElem hi, ?_⟩
          rw [e, List.getD_eq_getElem?_getD, List.getElem?_eq_getElem hi] <;> rfl
        refine set_update_ints ((Walks.list hh3 _ l hneI items).toS) s.heap.objs.size
          hSf ns hisz hb hval (items.size - 0) 0 _ (by omega) (Nat.zero_le _)
          ⟨⟨_, Heap.get?_push_size _ rfl, rfl, rfl⟩, (hl1.push _)⟩ ?hS0 ?hR
        case hS0 =>
          have hget : ((s.heap.push { cls := .type "set", dict := none, data := .set #[] 0 (.fresh 0 0 (!w.params.followText "set-order")) }).push { cls := .type "list_iterator", data := .fields #[.ref l, .int 0 0] }).get? s.heap.objs.size
              = some { cls := .type "set", dict := none, data := .set #[] 0 (.fresh 0 0 (!w.params.followText "set-order")) } := Heap.get?_push_of_some _ hS
          exact ⟨0, Nat.le_refl 0, setR_new_at hget⟩
        case hR =>
          intro s' c' hm hc' hS'
          obtain ⟨h', g2, d', tk', os'⟩ := s'
          have eg : g2 = s.gens := hm.gens
          have ed : d' = s.drawn := hm.drawn
          have eo : os' = s.os := hm.os
          subst eg; subst ed; subst eo
          show wpAny _ _ _ _ _ _
          refine wpAny_pure ?_
          show wpAny _ _ (ret Value.none) _ _ _
          rw [hisz] at hc'
          refine wpAny_pure ⟨rfl, h', tk', c', rfl, hS', hc', fun b o e => ?_⟩
          have hb0 : b < s.heap.objs.size := Heap.lt_size e
          have hb1 : b ≠ s.heap.objs.size := Nat.ne_of_lt hb0
          have hb2 : b ≠ (s.heap.push { cls := .type "set", dict := none, data := .set #[] 0 (.fresh 0 0 (!w.params.followText "set-order")) }).objs.size := by
            rw [Heap.size_push]; exact Nat.ne_of_lt (Nat.lt_succ_of_lt hb0)
          exact hm.heap b o (by simp only [List.mem_cons, List.mem_singleton, List.not_mem_nil, or_false, not_or]; exact ⟨hb1, hb2⟩) (Heap.get?_push_of_some _ (Heap.get?_push_of_some _ e))

      · cases r₂ with
        | error e => exact hr₂
        | ok fl₂ =>
          cases fl₂ with
          | ret r =>
            obtain ⟨rfl, h', tk, c', rfl, hS', hc', hk'⟩ := hr₂
            repeat (any_goals (first | assumption | wp_step))
            exact h _ _ _ hS' hc' hk'
          | _ => exact hr₂.elim
    | _ => exact hr.elim
end
theorem nodup_dups : ∀ ns : List Int, ns.eraseDups.Nodup
  | [] => by simp [List.eraseDups_nil]
  | x :: l => by
    rw [List.eraseDups_cons, List.nodup_cons]
    refine ⟨fun h => ?_, nodup_dups _⟩
    have := List.mem_filter.mp (List.mem_eraseDups.mp h)
    simp at this
termination_by ns => ns.length
decreasing_by
  have := List.length_filter_le (fun b => !b == x) l
  simp only [List.length_cons]
  omega
theorem SetR.count {w : World} {h : Heap} {a : Addr} {ns : List Int} {c : Nat} (R : SetR w h a (fun j => decide (j ∈ ns)) c) : c = ns.eraseDups.length := by
  obtain ⟨o, es, ep, t, ho, hex, hd, g, nd, hm, hb, hf, hn, hr, hl⟩ := R
  have p : (es.toList.map L2.keyOf).Perm ns.eraseDups := by
    refine (List.perm_ext_iff_of_nodup nd (nodup_dups ns)).mpr fun k => ?_
    rw [← hm k, decide_eq_true_eq, List.mem_eraseDups]
  have e := p.length_eq
  rw [List.length_map, Array.length_toList, hn] at e
  exact e
section
variable {X : Cx}
/-- set(xs) of a list of ints -/
def rSetI (w : World) (K : PySem.W.Frag) : List V → Hp → VK → Prop := fun vs H Q => ∃ (a : Addr) (ns : List Int), vs = [V.ref a] ∧ SqL K H a (ns.map V.int) ∧ ns.length ≤ 1000 ∧
  ∀ p, H p = none → Q (.ref p) (upd H p (SetO w p (fun k => decide (k ∈ ns)) ns.eraseDups.length))
theorem cr_setI (hc : X.calm = true) : CallR X (.type "set") (rSetI X.w X.K) := by
  intro pins s σ H vs us Q I r h
  obtain ⟨a, ns, rfl, hs, hl, q⟩ := h
  obtain ⟨its, rv, pl, hz⟩ := I.list hs
  rw [Vals.ref1 r]
  have hi : IntsAre its.toArray.toList ns := by simpa using rv.ints
  refine call_set_lstI ns (I.ok.hd hc) (show s.heap.IsList a its.toArray from pl.isList) hi (by unfold scanBound; omega) fun h' tk c R1 hcn k => ?_
  have hp : H s.heap.objs.size = none := I.hok.fresh (Nat.le_refl _)
  have e := SetR.count R1
  subst e
  exact ⟨.ref _, _, I.laid (t' := tk) k (Nat.le_refl _) (setO_new R1), rfl, q _ hp⟩
theorem cr_lenSet : CallR X (.builtin "len") (fun vs H Q => ∃ a S n, vs = [V.ref a] ∧ H a = some (SetO X.w a S n) ∧ Q (.int (n : Nat)) H) := by
  intro pins s σ H vs us Q I r h
  obtain ⟨a, S, n, rfl, ha, q⟩ := h
  rw [Vals.ref1 r]
  obtain ⟨o, es, ep, t, ho, hex, hd, g, nd, hm, hb, hf, hn, hr, hl⟩ := setO_get I ha
  exact call_len_set ho hex hd hf (by unfold scanBound at hb; omega) ⟨.int n, H, I.tok _, ⟨_, by rw [hn]⟩, q⟩
end
end PL
/-! PG4: enumerate(tuple). -/
namespace PL
open PySem PySem.Spec PyProof.Rows L2 PySem.W PySem.Calls
section
variable {prog : Program} {w : World} {A : Around} {E : Value → Shared → Prop} {s : Shared}
theorem nextOf_tuple_item {it t : Addr} {i : Nat} {items} {x : Value} {Q : Value → Shared → Prop} (hit : s.heap.IsTupleIter it t i)
    (ht : s.heap.IsTuple t items) (hx : items[i]? = some x)
    (hQ : ∀ h', h'.IsTupleIter it t (i + 1) → Heap.SameBut it s.heap h' → Q x { s with heap := h' }) :
    wpAny (model prog w) A (Builtin.SmallTypes.nextOf (.ref it)) Q E s := by
  obtain ⟨o, ho, hc, hd⟩ := id hit
  obtain ⟨ol, hol, _, nl, hdl⟩ := ht
  unfold Builtin.SmallTypes.nextOf
  refine wpAny_bind (wpAny_callSpecial?_slot (name := Str.ofString "__next__") hit.typeIs F.slot_tuple_iterator_next
    (wpAny_call_entry F.slot_tuple_iterator_next hit.typeIs F.entry_tuple_iterator_next ?_ (F.args_tuple_iterator_next_1 _)))
  show wpAny _ _ (field (.ref it) 0 >>= _) _ _ s
  refine wpAny_bind (wpAny_field ho hd (x := .ref t) rfl ?_)
  show wpAny _ _ (if (Value.ref t == Value.none) = true then _ else _) _ _ s
  rw [if_neg (show ¬ ((Value.ref t == Value.none) = true) from Bool.false_ne_true)]
  show wpAny _ _ (field (.ref it) 1 >>= _) _ _ s
  refine wpAny_bind (wpAny_field ho hd (x := .int i 0) rfl ?_)
  show wpAny _ _ (seqItems? (.ref t) >>= _) _ _ s
  refine wpAny_bind (wpAny_seqItems hol hdl ?_)
  simp only [Int.toNat_natCast, hx]
  refine wpAny_bind (wpAny_setField ho hd (by simp) (wpAny_pure ⟨x, rfl, wpAny_pure (hQ _ ?_ (Heap.SameBut.update ..))⟩))
  exact ⟨_, Heap.get?_update_self _ ho (Obj.isFreed_of_fields (Obj.data_mapFields hd _)), (Obj.cls_mapFields ..).trans hc, by
    rw [Obj.data_mapFields hd]; simp [rawInt]⟩
theorem nextOf_tuple_end {it t : Addr} {i : Nat} {items} {Q : Value → Shared → Prop} (hh : A.handled = none)
    (hit : s.heap.IsTupleIter it t i) (ht : s.heap.IsTuple t items) (hx : items[i]? = none)
    (hE : ∀ h' e, Heap.ExtBut it s.heap h' → (∃ o, h'.get? e = some o ∧ o.cls = .type "StopIteration") → E (.ref e) { s with heap := h' }) :
    wpAny (model prog w) A (Builtin.SmallTypes.nextOf (.ref it)) Q E s := by
  obtain ⟨o, ho, hc, hd⟩ := id hit
  obtain ⟨ol, hol, _, nl, hdl⟩ := ht
  unfold Builtin.SmallTypes.nextOf
  refine wpAny_bind (wpAny_callSpecial?_slot (name := Str.ofString "__next__") hit.typeIs F.slot_tuple_iterator_next
    (wpAny_call_entry F.slot_tuple_iterator_next hit.typeIs F.entry_tuple_iterator_next ?_ (F.args_tuple_iterator_next_1 _)))
  show wpAny _ _ (field (.ref it) 0 >>= _) _ _ s
  refine wpAny_bind (wpAny_field ho hd (x := .ref t) rfl ?_)
  show wpAny _ _ (if (Value.ref t == Value.none) = true then _ else _) _ _ s
  rw [if_neg (show ¬ ((Value.ref t == Value.none) = true) from Bool.false_ne_true)]
  show wpAny _ _ (field (.ref it) 1 >>= _) _ _ s
  refine wpAny_bind (wpAny_field ho hd (x := .int i 0) rfl ?_)
  show wpAny _ _ (seqItems? (.ref t) >>= _) _ _ s
  refine wpAny_bind (wpAny_seqItems hol hdl ?_)
  simp only [Int.toNat_natCast, hx]
  refine wpAny_bind (wpAny_rule (wpAny_bind (wpAny_setField ho hd (by simp) ?_)))
  show wpAny _ _ (newExc (.type "StopIteration") [] >>= _) _ _ _
  refine wpAny_bind ?_
  simp only [newExc, newTuple]
  refine wpAny_bind (wpAny_newObj_type ?_ (by size_fits))
  refine wpAny_bind (m := firstArgMember _ _) (wpAny_of_eq (a := Value.none) (by first | rfl | (simp only [firstArgMember]; rfl)) ?_)
  refine wpAny_newObj_type ?_ (by size_fits)
  simp only [raiseNew]
  refine wpAny_bind (wpAny_handled ?_)
  first | rw [show A.in1.handled = none from hh] | rw [hh]
  refine wpAny_bind (wpAny_pure (wpAny_throw ?_))
  exact hE _ _ (((Heap.SameBut.update ..).extBut.push _).push _) ⟨_, Heap.get?_push_size _ rfl, rfl⟩
end
theorem enum_end_tuple {prog : Program} {w : World} {A : Around} {E : Value → Shared → Prop} {s : Shared} {e it l : Addr} {i : Nat} {items : Array Value} {old : Value} {Q : Option Value → Shared → Prop} (hh : A.handled = none)
    (he : IsEnum s.heap e it i old) (hit : s.heap.IsTupleIter it l i) (hl : s.heap.IsTuple l items) (hx : items[i]? = none)
    (hQ : ∀ h', Heap.ExtBut it s.heap h' → Q none { s with heap := h' }) : wpAny (model prog w) A (pyNext (.ref e)) Q E s := by
  have hT : s.TypeIs (.ref e) "enumerate" := ⟨_, he, rfl⟩
  unfold pyNext
  refine wpAny_bind (wpAny_attempt (wpAny_callSpecial?_slot (name := Str.ofString "__next__") hT F.slot_enumerate_next
    (wpAny_call_entry F.slot_enumerate_next hT F.entry_enumerate_next ?_ (F.args_enumerate_next_1 _))))
  show wpAny _ _ (field (.ref e) 2 >>= _) _ _ _
  refine wpAny_bind (wpAny_field he rfl (x := .ref it) rfl ?_)
  refine wpAny_bind (nextOf_tuple_end hh hit hl hx fun h' x he' hx' => ?_)
  obtain ⟨o, ho, hc⟩ := hx'
  refine wpAny_bind (wpAny_isInstance (T := "StopIteration") (b := true) ⟨o, ho, hc⟩ isSubtype_stop ?_)
  exact wpAny_pure (hQ _ he')
theorem draws_tuple {prog : Program} {w : World} {A : Around} (hh : A.handled = none) (it l : Addr) (hne : l ≠ it) (items : Array Value) :
    Draws prog w A it [it, l] items.size (fun i v => items[i]? = some v) (fun i h => h.IsTupleIter it l i ∧ h.IsTuple l items) where
  live := fun _ _ st => let ⟨o, ho, _⟩ := st.1; ⟨o, ho⟩
  frame := fun _ _ _ st hk => ⟨st.1.at fun o e => hk it (by simp) o e, let ⟨o, ho, r⟩ := st.2; ⟨o, hk l (by simp) o ho, r⟩⟩
  item := fun i s Q E hi st hQ => by
    refine nextOf_tuple_item st.1 st.2 (x := items[i]) (by simp [hi]) fun h' hit' hs' => ?_
    exact hQ _ h' s.toks (by simp [hi]) ⟨hit', st.2.extBut hs'.extBut hne⟩ hs'
  done := fun s Q E st hE => nextOf_tuple_end hh st.1 st.2 (by simp) hE
theorem meets_enumerate_newT (l : Addr) (items : Array Value) (n : Nat) (dct : Option Addr) (sl : Array (Option Value)) :
    Meets (Builtin.«enumerate.__new__» ⟨[.type "enumerate", .ref l], []⟩) (fun _ R s => s.heap.get? l = some { cls := .type "tuple", dict := dct, data := .seq items n, slots := sl } ∧
      R (.ok (.ret (.ref (s.heap.push { cls := .type "tuple_iterator", data := .fields #[.ref l, .int 0 0] }).objs.size)))
        { s with heap := (s.heap.push { cls := .type "tuple_iterator", data := .fields #[.ref l, .int 0 0] }).push { cls := .type "enumerate", data := .fields #[.none, .bool false, .ref s.heap.objs.size, rawInt 0, .none, .none] } }) :=
  .of_wp fun prog w A R s h => by
    obtain ⟨hp, g, d, tk, os⟩ := s; obtain ⟨hl, h⟩ := h
    have hsub := sub_enumerate
    have hL : Heap.IsTuple (Shared.heap ⟨hp, g, d, tk, os⟩) l items := ⟨_, hl, rfl, n, rfl⟩
    wp_walk using wpAny_loadPart' hl
    refine wpAny_stack_any fun st => wpAny_pure ?_
    split
    · rename_i c _ _ _ _ _
      cases (c == Value.type "enumerate")
      · wp_walk using wpAny_loadPart' hl, wpAny_pyIter_tuple hL
        exact ⟨_, rfl, h⟩
      · wp_walk using wpAny_loadPart' hl, wpAny_pyIter_tuple hL
        exact ⟨_, rfl, h⟩
    · wp_walk using wpAny_loadPart' hl, wpAny_pyIter_tuple hL
      exact ⟨_, rfl, h⟩
section
variable {prog : Program} {w : World} {A : Around} {E : Value → Shared → Prop} {s : Shared}
theorem call_enumerate_tuple {l : Addr} {items : Array Value} {Q : Value → Shared → Prop} (hL : s.heap.IsTuple l items)
    (h : ∀ h', IsEnum h' (s.heap.objs.size + 1) s.heap.objs.size 0 .none → h'.IsTupleIter s.heap.objs.size l 0 → h'.objs.size = s.heap.objs.size + 2 →
      (∀ b o, s.heap.get? b = some o → h'.get? b = some o) → Q (.ref (s.heap.objs.size + 1)) { s with heap := h' }) :
    wpAny (model prog w) A (call (.type "enumerate") [.ref l]) Q E s := by
  obtain ⟨⟨c, dct, dt, sl⟩, hl, hc, n, hd⟩ := hL
  replace hc : c = .type "tuple" := hc
  replace hd : dt = .seq items n := hd
  subst hc hd
  refine callType_new F.called_enumerate (by decide) (F.typeCall_enumerate_1 _) (F.newCall_enumerate_1 _) (fun obj => F.args_object_init_2 obj _) F.entry_enumerate_new
    (meets_enumerate_newT l items n dct sl) ⟨hl, ?_⟩
  have hz : (s.heap.push { cls := .type "tuple_iterator", data := .fields #[.ref l, .int 0 0] }).objs.size = s.heap.objs.size + 1 := Heap.size_push ..
  show _ ∧ _
  rw [hz]
  have he : IsEnum ((s.heap.push { cls := .type "tuple_iterator", data := .fields #[.ref l, .int 0 0] }).push
      { cls := .type "enumerate", data := .fields #[.none, .bool false, .ref s.heap.objs.size, rawInt 0, .none, .none] }) (s.heap.objs.size + 1) s.heap.objs.size 0 .none := by
    have := Heap.get?_push_size (s.heap.push { cls := .type "tuple_iterator", data := .fields #[.ref l, .int 0 0] })
      (o := { cls := .type "enumerate", data := .fields #[.none, .bool false, .ref s.heap.objs.size, rawInt 0, .none, .none] }) rfl
    rw [hz] at this; exact this
  refine ⟨⟨_, he, rfl⟩, h _ he ⟨_, Heap.get?_push_of_some _ (Heap.get?_push_size _ rfl), rfl, rfl⟩ (by rw [Heap.size_push, hz]) fun b o x => Heap.get?_push_of_some _ (Heap.get?_push_of_some _ x)⟩
end
/-- the tuple at a, each item in a new pair -/
def IteT (K : PySem.W.Frag) (a : Addr) : It :=
  ⟨fun i H => ∃ (xs : List V) (x : V), SqT K H a xs ∧ xs[i]? = some x, fun i H v H' => ∃ T x, v = .ref T ∧ H T = none ∧ H' = upd H T (.tup [.int (i : Nat), x]) ∧ ∀ xs, SqT K H a xs → xs[i]? = some x, fun i H => ∃ xs : List V, SqT K H a xs ∧ xs.length ≤ i⟩
def iEnumA (K : PySem.W.Frag) (ta : TA) : TI := fun σ H R => ta σ H fun vs H1 => ∃ a xs, vs = [.ref a] ∧ ((SqL K H1 a xs ∧ R (Ite K a) H1) ∨ (SqT K H1 a xs ∧ R (IteT K a) H1))
theorem turn_enumT {P : Program} {w : World} {K : PySem.W.Frag} {elts : List Expr} {kk : Nat} {tpos : Pos} (a e it : Addr) :
    Turn P w K (.Tuple elts kk tpos) (IteT K a) [e, it] e (fun i h => (∃ old, IsEnum h e it ((i : Nat) : Int) old) ∧ h.IsTupleIter it a i ∧ e ≠ it) where
  mem := by simp
  obj := fun i h st b hb => by
    obtain ⟨⟨old, he⟩, ⟨o, ho, hc, hd⟩, _⟩ := st
    have e' : b = e ∨ b = it := by simpa using hb
    rcases e' with z | z
    · rw [z]; exact ⟨_, he, fun v q => nomatch q⟩
    · rw [z]; exact ⟨o, ho, fun v q => by rw [hd] at q; cases q⟩
  keep := fun i h h' st k => let ⟨⟨old, he⟩, hi, hne⟩ := st; ⟨⟨old, k e (by simp) _ he⟩, hi.at fun o q => k it (by simp) o q, hne⟩
  item := by
    intro X hP hw hK hc i pins s σ H E I hf st hg
    subst hP hw hK
    obtain ⟨⟨old, he⟩, hit, hne⟩ := st
    obtain ⟨xs, x, hq, hx⟩ := hg
    obtain ⟨its, rv, p, hz⟩ := I.tuple hq
    obtain ⟨u, hu, ru⟩ := rv.get hx
    have p : s.heap.IsTuple a its.toArray := p
    have hel : e < s.heap.objs.size := Heap.lt_size he
    have hil : it < s.heap.objs.size := by obtain ⟨_, q, _⟩ := hit; exact Heap.lt_size q
    have hai : a ≠ it := by
      obtain ⟨o1, q1, c1, _⟩ := hit
      obtain ⟨o2, q2, c2, _⟩ := p
      rintro rfl
      rw [q1] at q2; cases q2; rw [c1] at c2; exact absurd c2 (by decide)
    have hae : e ≠ a := by
      obtain ⟨o2, q2, c2, _⟩ := p
      rintro rfl
      rw [show s.heap.get? e = _ from he] at q2; cases q2; exact absurd (show Value.type "enumerate" = Value.type "tuple" from c2) (by decide)
    have hux : its.toArray[i]? = some u := by simpa using hu
    have hi : i < its.toArray.size := (Array.getElem?_eq_some_iff.mp hux).1
    refine wpAny_pyNext_enum_itemD (draws_tuple (by simp [I.ok.hd hc]) it a hai its.toArray) he ⟨hit, p⟩ hi hne (by simp [hne, hae]) fun u' h' tk hPx ho hit' hT hsz hk => ?_
    have eu : u' = u := Option.some.inj (hPx.symm.trans hux)
    subst eu
    refine ⟨_, rfl, wpAny_letOwnedTupleGo_enum (s := { s with heap := h', toks := tk + 1 }) ho fun h'' he' sb => ?_⟩
    have hT2 : h''.get? s.heap.objs.size = some { cls := .type "tuple", data := .seq #[.int i tk, u'] } := (sb.2 _ (Nat.ne_of_gt hel)).trans hT
    have new : ObjOk X.prog X.w (upd H s.heap.objs.size (.tup [.int (i : Nat), x])) h'' s.heap.objs.size (.tup [.int (i : Nat), x]) :=
      ⟨by show 2 ≤ sizeLine; decide, [.int i tk, u'], .cons ⟨_, rfl⟩ (.cons ru .nil), ⟨_, hT2, rfl, _, rfl⟩⟩
    have I1 : Inv X pins σ (upd H s.heap.objs.size (.tup [.int (i : Nat), x])) { s with heap := h'', toks := tk + 1 } :=
      I.turnedNew (ch := [e, it]) (fun b ob hb q => (sb.2 b (fun z => hb (by simp [z]))).trans (hk b ob (fun z => hb (by simp [z])) (fun z => hb (by simp [z])) q)) hf (Nat.le_refl _) new
    refine ⟨.ref s.heap.objs.size, _, I1, rfl, ⟨_, x, rfl, I.hok.fresh (Nat.le_refl _), rfl, fun ys hy => by rw [I.tuple_inj hy hq]; exact hx⟩, ⟨⟨u', ?_⟩, hit'.1.at fun o q => (sb.2 it (Ne.symm hne)).trans q, hne⟩, fun b hb => ?_⟩
    · have e1 : ((i + 1 : Nat) : Int) = (i : Int) + 1 := by omega
      rw [e1]; exact he'
    · have hb' : b < s.heap.objs.size := by
        have e' : b = e ∨ b = it := by simpa using hb
        rcases e' with z | z
        · rw [z]; exact hel
        · rw [z]; exact hil
      rw [upd_ne (Nat.ne_of_lt hb')]
      exact (hf b hb).1
  done := by
    intro X hP hw hK hc i pins s σ H E I hf st hg
    subst hP hw hK
    obtain ⟨⟨old, he⟩, hit, hne⟩ := st
    obtain ⟨xs, hq, hx⟩ := hg
    obtain ⟨its, rv, p, hz⟩ := I.tuple hq
    have p : s.heap.IsTuple a its.toArray := p
    obtain ⟨f0, f1, f2, f3, f4, f5⟩ := hf it (by simp)
    have hl := rv.length
    exact enum_end_tuple (I.ok.hd hc) he hit p (by simp; omega) fun h' eb => ⟨rfl, I.turned (t' := s.toks) (fun b o hb q => eb b o hb q) f0 f1 f3 f4 f5⟩
  self := fun A i s Q E st h => let ⟨⟨_, he⟩, _⟩ := st; wpAny_pyIter_enum he h
section
variable {X : Cx}
theorem pi_enumA {e : Expr} {ta : TA} {p pos tpos : Pos} {elts : List Expr} {kk : Nat} (hg : Gl X "enumerate") (hm : X.mg "enumerate" = none) (ha : PA X [e] ta) (hs : starEach [e] X.env = [(false, eval e X.env)]) :
    PI X (.Tuple elts kk tpos) (.Call (.Name "enumerate" p) [e] [] pos) (iEnumA X.K ta) := by
  refine ⟨fun pins s σ H R I h => ?_⟩
  refine Call_ (ld_blt I hg hm boot_enumerate (PyProof.Rows.callWith_type1 (thn (ha.run pos pins s σ H _ I h) fun us s1 ⟨vs, H1, I1, r1, q1⟩ => ?_) hs rfl))
  obtain ⟨a, xs, ex, q1⟩ := q1
  subst ex
  cases r1 with
  | cons r rr =>
    cases rr
    cases r
    have fin : ∀ b, b ∈ [s1.heap.objs.size + 1, s1.heap.objs.size] → s1.heap.objs.size ≤ b := fun b hb => by
      have e' : b = s1.heap.objs.size + 1 ∨ b = s1.heap.objs.size := by simpa using hb
      rcases e' with z | z
      · rw [z]; exact Nat.le_add_right _ _
      · rw [z]; exact Nat.le_refl _
    rcases q1 with ⟨hq, q⟩ | ⟨hq, q⟩
    · obtain ⟨its, rv, p', hz⟩ := I1.list hq
      refine call_enumerate_list p'.isList fun h' he hit hsz hk => wpAny_pyIter_enum he ?_
      have I2 : Inv X pins σ H1 { s1 with heap := h' } := I1.kept (t' := s1.toks) hk
      exact ⟨s1.heap.objs.size + 1, [s1.heap.objs.size + 1, s1.heap.objs.size], _, _, H1, rfl, I2, turn_enum a (s1.heap.objs.size + 1) s1.heap.objs.size, ⟨⟨.none, he⟩, hit, Nat.succ_ne_self _⟩, fun b hb => I1.fpOk (fin b hb) (I1.hok.fresh (fin b hb)), q⟩
    · obtain ⟨its, rv, p', hz⟩ := I1.tuple hq
      refine call_enumerate_tuple (show s1.heap.IsTuple _ its.toArray from p') fun h' he hit hsz hk => wpAny_pyIter_enum he ?_
      have I2 : Inv X pins σ H1 { s1 with heap := h' } := I1.kept (t' := s1.toks) hk
      exact ⟨s1.heap.objs.size + 1, [s1.heap.objs.size + 1, s1.heap.objs.size], _, _, H1, rfl, I2, turn_enumT a (s1.heap.objs.size + 1) s1.heap.objs.size, ⟨⟨.none, he⟩, hit, Nat.succ_ne_self _⟩, fun b hb => I1.fpOk (fin b hb) (I1.hok.fresh (fin b hb)), q⟩
theorem walk_enumT {K : PySem.W.Frag} {a : Addr} {xs : List V} : L2.Walk (IteT K a) xs.length (fun H => SqT K H a xs) (YPair (fun i => some (.int (i : Nat))) (fun i => xs[i]?)) := by
  refine ⟨fun i _ hi q => ⟨xs, xs[i], q, by simp [hi]⟩, fun _ q => ⟨xs, q, Nat.le_refl _⟩, fun i H v H' _ q y => ?_⟩
  obtain ⟨T, x, h1, h2, h3, h4⟩ := y
  exact ⟨T, .int (i : Nat), x, h1, h2, h3, rfl, h4 xs q⟩
end
end PL
/-! PG5: sum(lists, []). -/
namespace PL
open PySem PySem.Spec PyProof.Rows L2 PySem.W PySem.Calls
theorem sub_list_str : isSubtype (.type "list") (.type "str") = pure false := by rw [isSubtype_type]; kernel_rfl
theorem sub_list_bytes : isSubtype (.type "list") (.type "bytes") = pure false := by rw [isSubtype_type]; kernel_rfl
theorem sub_list_bytearray : isSubtype (.type "list") (.type "bytearray") = pure false := by rw [isSubtype_type]; kernel_rfl
theorem args_sum2 (a b : Value) : argsOk "sum" ⟨[a, b], []⟩ := by unfold argsOk; kernel_rfl
/-- a plain list, no more -/
def LO (h : Heap) (t : Addr) (xs : List Value) : Prop := ∃ n, h.get? t = some { cls := .type "list", dict := none, data := .seq xs.toArray n, slots := #[] }
section
variable {prog : Program} {w : World} {A : Around} {R : Result → Shared → Prop}
theorem sum_lists_loop (hh : A.in1.handled = none) {h0 : Heap} {I S ax : Addr} {ps : List Addr} {f : Nat → List Value} (hf : ∀ (i : Nat) (p : Addr), ps[i]? = some p → LO h0 p (f i))
    {items : Array Value} (hit : ∀ (i : Nat) (v : Value), items[i]? = some v → ∃ p, ps[(i : Nat)]? = some p ∧ v = Value.ref p) (hax : ax ≠ I) (hI : h0.objs.size ≤ I) (hS : h0.objs.size ≤ S) (hIS : S ≠ I) (haS : S ≠ ax)
    (hz : ∀ i, i < items.size → ((List.range i).map f).flatten.length + (f i).length ≤ sizeLine) :
    ∀ (k i : Nat) (s : Shared) (t : Addr) (c : Nat), items.size - i = k → i ≤ items.size → (s.heap.IsListIter I ax i ∧ s.heap.IsList ax items) →
      s.heap.get? S = some { cls := .type "list", dict := none, data := .seq #[.ref t] c, slots := #[] } → (∀ b o, h0.get? b = some o → s.heap.get? b = some o) → LO s.heap t ((List.range i).map f).flatten → t ≠ I → t ≠ S →
      (∀ h' tk t', (∀ b o, h0.get? b = some o → h'.get? b = some o) → LO h' t' ((List.range items.size).map f).flatten → (t' = t ∧ i = items.size ∨ (i < items.size ∧ h0.objs.size ≤ t')) → R (.ok (.ret (.ref t'))) { s with heap := h', toks := tk }) →
      codeAny (model prog w) A (.builtin "sum.loop" ⟨[.ref I, .ref S, rawInt 2, rawInt 0], []⟩) R s := by
  have W := Walks.list (prog := prog) (w := w) hh I ax hax items
  intro k
  induction k with
  | zero =>
    intro i s t c hk hi hst hSo hkp hL htI htS hR
    have hin : i = items.size := by omega
    subst hin
    refine codeAny_builtin F.entry_sum_loop ?_
    rw [Around.under_plainId F.plain_sum_loop _]
    show wpAny _ A.in1 (seqItems? (.ref S) >>= _) _ _ s
    refine wpAny_bind (wpAny_seqItems hSo rfl ?_)
    show wpAny _ A.in1 (tryCatch (pyNext (.ref I)) _ >>= _) _ _ s
    refine wpAny_bind (wpAny_tryCatch (W.done s _ _ hst fun h' tk hk' => ?_))
    have k1 : ∀ b, b < h0.objs.size → b ∉ [I] := fun b hb z => by
      rw [List.mem_singleton.mp z] at hb; omega
    exact wpAny_pure (hR h' tk t (fun b o e => hk' b o (k1 b (Heap.lt_size e)) (hkp b o e)) (by obtain ⟨n, e⟩ := hL; exact ⟨n, hk' t _ (by simpa using htI) e⟩) (.inl ⟨rfl, rfl⟩))
  | succ k ih =>
    intro i s t c hk hi hst hSo hkp hL htI htS hR
    have hlt : i < items.size := by omega
    refine codeAny_builtin F.entry_sum_loop ?_
    rw [Around.under_plainId F.plain_sum_loop _]
    show wpAny _ A.in1 (seqItems? (.ref S) >>= _) _ _ s
    refine wpAny_bind (wpAny_seqItems hSo rfl ?_)
    show wpAny _ A.in1 (tryCatch (pyNext (.ref I)) _ >>= _) _ _ s
    refine wpAny_bind (wpAny_tryCatch (W.item i s _ _ hlt hst fun v h' tk hP hst' hk' => ?_))
    obtain ⟨p, hp, rfl⟩ := hit i v hP
    have k1 : ∀ b, b < h0.objs.size → b ∉ [I] := fun b hb z => by
      rw [List.mem_singleton.mp z] at hb; omega
    have hS' := hk' S _ (by simpa using hIS) hSo
    have kp' : ∀ b o, h0.get? b = some o → h'.get? b = some o := fun b o e => hk' b o (k1 b (Heap.lt_size e)) (hkp b o e)
    obtain ⟨n1, e1⟩ := hL
    have e1 := hk' t _ (by simpa using htI) e1
    obtain ⟨n2, e2⟩ := hf i p hp
    have e2 := kp' p _ e2
    have hSl : S < h'.objs.size := Heap.lt_size hS'
    have hIl : I < h'.objs.size := by obtain ⟨_, q, _⟩ := hst'.1; exact Heap.lt_size q
    have h0l : h0.objs.size ≤ h'.objs.size := Nat.le_trans hS (Nat.le_of_lt hSl)
    have el : ((List.range (i + 1)).map f).flatten = ((List.range i).map f).flatten ++ f i := by
      rw [List.range_succ, List.map_append, List.flatten_append] <;> simp
    show wpAny _ A.in1 ((holding [Value.ref p] (binaryOp .Add (.ref t) (.ref p))).attempt >>= _) _ _ _
    refine wpAny_bind (wpAny_attempt (wpAny_holding (PySem.P.add_list (s := { s with heap := h', toks := tk }) e1 e2 ?_ (by have := hz i hlt; rw [List.size_toArray, List.size_toArray]; omega))))
    show wpAny _ A.in1 (updateSeq S (fun _ => #[.ref h'.objs.size]) >>= _) _ _ _
    refine wpAny_bind ?_
    have hS1 : (h'.push { cls := .type "list", data := .seq (((List.range i).map f).flatten.toArray ++ (f i).toArray) }).get? S = _ := Heap.get?_push_of_some _ hS'
    refine wpAny_updateSeq hS1 rfl ?_
    have hS2 := Heap.get?_update_self (Obj.mapSeq fun _ => #[Value.ref h'.objs.size]) hS1 rfl
    refine wpAny_bind (wpAny_letGo ?_)
    refine wpAny_bind ?_
    have up : ∀ (b : Addr) (o : Obj) {h : Heap} {g : Obj → Obj}, S ≠ b → h.get? b = some o → (h.update S g).get? b = some o := fun b o h g hb e => (Heap.get?_update_other _ _ hb).trans e
    refine wpAny_updateSeq hS2 rfl (wpAny_pure ⟨plainId_quiet F.plain_sum_loop _, ih (i + 1) _ h'.objs.size _ (by omega) hlt ⟨hst'.1.at fun o e => up I o hIS (up I o hIS (Heap.get?_push_of_some _ e)), hst'.2.at fun o e => up ax o haS (up ax o haS (Heap.get?_push_of_some _ e))⟩ (Heap.get?_update_self _ hS2 rfl)
      (fun b o e => up b o (fun z => absurd (Heap.lt_size e) (by rw [← z]; exact Nat.not_lt.mpr hS)) (up b o (fun z => absurd (Heap.lt_size e) (by rw [← z]; exact Nat.not_lt.mpr hS)) (Heap.get?_push_of_some _ (kp' b o e)))) ?_ (Nat.ne_of_gt hIl) (Nat.ne_of_gt hSl) fun h'' tk'' t'' hk'' hL'' ht'' => ?_⟩)
    · rw [el]
      refine ⟨0, up _ _ (Nat.ne_of_lt hSl) (up _ _ (Nat.ne_of_lt hSl) ?_)⟩
      rw [show (((List.range i).map f).flatten ++ f i).toArray = ((List.range i).map f).flatten.toArray ++ (f i).toArray by simp]
      exact Heap.get?_push_size _ rfl
    · refine hR h'' tk'' t'' hk'' hL'' (.inr ⟨hlt, ?_⟩)
      rcases ht'' with ⟨rfl, _⟩ | ⟨_, z⟩
      · exact h0l
      · exact z
end
section
variable {prog : Program} {w : World} {A : Around} {E : Value → Shared → Prop} {s : Shared}
theorem call_sum_lists (hh : A.handled = none) {ax b : Addr} {ps : List Addr} {f : Nat → List Value} {items : Array Value} {Q : Value → Shared → Prop} (hl : s.heap.IsList ax items) (hb : LO s.heap b [])
    (hf : ∀ (i : Nat) (p : Addr), ps[i]? = some p → LO s.heap p (f i)) (hit : ∀ (i : Nat) (v : Value), items[i]? = some v → ∃ p, ps[(i : Nat)]? = some p ∧ v = Value.ref p)
    (hz : ∀ i, i < items.size → ((List.range i).map f).flatten.length + (f i).length ≤ sizeLine)
    (hQ : ∀ h' tk t', (∀ b o, s.heap.get? b = some o → h'.get? b = some o) → LO h' t' ((List.range items.size).map f).flatten → (t' = b ∧ 0 = items.size ∨ (0 < items.size ∧ s.heap.objs.size ≤ t')) → Q (.ref t') { s with heap := h', toks := tk }) :
    wpAny (model prog w) A (call (.builtin "sum") [.ref ax, .ref b]) Q E s := by
  have hT : ∀ h', (∀ b o, s.heap.get? b = some o → h'.get? b = some o) → Shared.TypeIs { s with heap := h' } (.ref b) "list" := fun h' k => by
    obtain ⟨n, e⟩ := hb
    exact ⟨_, k _ _ e, rfl⟩
  have hlS : ax < s.heap.objs.size := by obtain ⟨o, e, _⟩ := hl; exact Heap.lt_size e
  have hbS : b < s.heap.objs.size := by obtain ⟨n, e⟩ := hb; exact Heap.lt_size e
  refine call_function_tree F.kind_sum F.plain_sum F.entry_sum (args_sum2 _ _) ?_
  unfold Builtin.«sum»
  simp only [List.length_cons, List.length_nil]
  rw [if_neg (by decide)]
  refine wpAny_bind (wpAny_of_eq (show Builtin.Builtins.bindParams "sum" ["start"] 0 ⟨[.ref b], []⟩ = pure [some (.ref b)] from rfl) ?_)
  refine wpAny_bind (wpAny_pyIter_list hl ?_)
  refine wpAny_bind (wpAny_pure ?_)
  have k1 : ∀ b o, s.heap.get? b = some o → (s.heap.push { cls := .type "list_iterator", data := .fields #[.ref ax, .int 0 0] }).get? b = some o := fun b o e => Heap.get?_push_of_some _ e
  simp only [List.forIn_cons, List.forIn_nil]
  refine wpAny_bind (wpAny_bind (wpAny_bind (wpAny_isInstance (T := "list") (b := false) (hT _ k1) sub_list_str ?_)))
  simp only [Bool.false_eq_true, if_false]
  refine wpAny_pure (wpAny_bind (wpAny_bind (wpAny_isInstance (T := "list") (b := false) (hT _ k1) sub_list_bytes ?_)))
  simp only [Bool.false_eq_true, if_false]
  refine wpAny_pure (wpAny_bind (wpAny_bind (wpAny_isInstance (T := "list") (b := false) (hT _ k1) sub_list_bytearray ?_)))
  simp only [Bool.false_eq_true, if_false]
  refine wpAny_pure (wpAny_pure ?_)
  refine wpAny_bind (wpAny_newObj_type ?_)
  have hz1 : (s.heap.push { cls := .type "list_iterator", data := .fields #[.ref ax, .int 0 0] }).objs.size = s.heap.objs.size + 1 := Heap.size_push ..
  refine wpAny_pure ⟨plainId_quiet F.plain_sum_loop _, ?_⟩
  rw [hz1]
  refine sum_lists_loop (by simp [hh]) (h0 := s.heap) (ps := ps) (f := f) hf hit (Nat.ne_of_lt hlS) (Nat.le_refl _) (Nat.le_succ _) (Nat.succ_ne_self _) (Nat.ne_of_gt (Nat.lt_succ_of_lt hlS)) hz _ 0 _ b 0 rfl (Nat.zero_le _)
    ⟨⟨_, Heap.get?_push_of_some _ (Heap.get?_push_size _ rfl), rfl, rfl⟩, (hl.push _).push _⟩ (by have := Heap.get?_push_size (s.heap.push { cls := .type "list_iterator", data := .fields #[.ref ax, .int 0 0] }) (o := { cls := .type "list", data := .seq #[.ref b] }) rfl; rw [hz1] at this; exact this) (fun b o e => Heap.get?_push_of_some _ (k1 b o e)) ?_ (Nat.ne_of_lt hbS) (Nat.ne_of_lt (Nat.lt_succ_of_lt hbS)) fun h' tk t' hk hL ht => ?_
  · obtain ⟨n, e⟩ := hb
    exact ⟨n, Heap.get?_push_of_some _ (k1 _ _ e)⟩
  · exact hQ h' tk t' hk hL ht
end
section
variable {X : Cx}
/-- sum(xs, []) of a list of lists -/
def rSumL (K : PySem.W.Frag) : List V → Hp → VK → Prop := fun vs H Q => ∃ (a b : Addr) (ps : List Addr) (xss : List (List V)), vs = [V.ref a, .ref b] ∧ SqL K H a (ps.map V.ref) ∧ H b = some (.lst []) ∧
  Paired (fun p xs => H p = some (.lst xs)) ps xss ∧ xss.flatten.length ≤ sizeLine ∧ (xss = [] → Q (.ref b) H) ∧ (xss ≠ [] → ∀ p, H p = none → Q (.ref p) (upd H p (.lst xss.flatten)))
theorem lists_of {H : Hp} {pins : List (Addr × Obj)} {σ : L2.St} {s : Shared} (I : Inv X pins σ H s) : ∀ {ps : List Addr} {xss : List (List V)}, Paired (fun p xs => H p = some (.lst xs)) ps xss →
    ∃ its : List (List Value), Paired (fun p ys => LO s.heap p ys) ps its ∧ Paired Vals xss its
  | _, _, .nil => ⟨[], .nil, .nil⟩
  | _, _, .cons (a := p) (b := xs) e t => by
    obtain ⟨its, h1, h2⟩ := lists_of I t
    obtain ⟨z, us, n, r, hl, q⟩ := I.lstM e
    exact ⟨us :: its, .cons ⟨n, q⟩ h1, .cons r h2⟩
theorem vals_flat : ∀ {xss : List (List V)} {its : List (List Value)}, Paired Vals xss its → Vals xss.flatten its.flatten
  | _, _, .nil => .nil
  | _, _, .cons r t => by
    rw [List.flatten_cons, List.flatten_cons]
    exact r.append (vals_flat t)
theorem flat_take (L : List (List Value)) : ∀ i, i ≤ L.length → ((List.range i).map fun j => L.getD j []).flatten = (L.take i).flatten := by
  intro i hi
  congr 1
  refine List.ext_getElem? fun j => ?_
  rw [List.getElem?_map, List.getElem?_take]
  by_cases h : j < i
  · rw [List.getElem?_range h, if_pos h, List.getElem?_eq_getElem (by omega)]
    simp [List.getD_eq_getElem?_getD, List.getElem?_eq_getElem (show j < L.length by omega)]
  · rw [if_neg h, List.getElem?_eq_none (by simpa using h)] <;> rfl
theorem cr_sumL (hc : X.calm = true) : CallR X (.builtin "sum") (rSumL X.K) := by
  intro pins s σ H vs us Q I r h
  obtain ⟨a, b, ps, xss, rfl, hs, hb, hp, hz, q0, q1⟩ := h
  cases r with
  | cons r rr =>
  cases rr with
  | cons r2 rr2 =>
  cases rr2
  cases r
  cases r2
  obtain ⟨its, rv, pl, hz2⟩ := I.list hs
  obtain ⟨L, hL, hV⟩ := lists_of I hp
  obtain ⟨zb, ub, nb, rb, hlb, eb⟩ := I.lstM hb
  cases rb
  have hlen : its.length = ps.length := by
    have := rv.length
    rw [List.length_map] at this
    exact this.symm
  have hLl : L.length = ps.length := (Paired.length hL).symm
  have hxl : xss.length = ps.length := (Paired.length hp).symm
  have fl := vals_flat hV
  have hfl : L.flatten.length = xss.flatten.length := fl.length.symm
  have hsz : its.toArray.size = L.length := by rw [List.size_toArray, hlen, hLl]
  refine call_sum_lists (I.ok.hd hc) (f := fun j => L.getD j []) (ps := ps) (show s.heap.IsList a its.toArray from pl.isList) ⟨nb, eb⟩ (fun i p hi => ?_) (fun i v hv => ?_) (fun i hi => ?_) fun h' tk t' hk hLO ht => ?_
  · obtain ⟨y, hy, z⟩ := paired_get hL hi
    simp only [List.getD_eq_getElem?_getD, hy, Option.getD_some]
    exact z
  · have hv2 : its[i]? = some v := by simpa using hv
    have hi : i < ps.length := by rw [← hlen]; exact (List.getElem?_eq_some_iff.mp hv2).1
    obtain ⟨u, hu, ru⟩ := rv.get (show (ps.map V.ref)[i]? = some (V.ref ps[i]) by simp [hi])
    rw [hv2] at hu
    cases hu
    exact ⟨ps[i], List.getElem?_eq_getElem hi, ru⟩
  · rw [hsz] at hi
    have e1 := flat_take L i (by omega)
    have e2 := flat_take L (i + 1) (by omega)
    rw [List.range_succ, List.map_append, List.flatten_append] at e2
    have e3 := congrArg List.length e2
    rw [List.length_append] at e3
    have e4 : ((L.take (i + 1)).flatten).length ≤ L.flatten.length := by
      have : L.flatten = (L.take (i + 1)).flatten ++ (L.drop (i + 1)).flatten := by rw [← List.flatten_append, List.take_append_drop]
      rw [this, List.length_append]
      omega
    simp only [List.map_cons, List.map_nil, List.flatten_cons, List.flatten_nil, List.append_nil] at e3
    omega
  · rw [hsz, flat_take L _ (Nat.le_refl _), List.take_length] at hLO
    rcases ht with ⟨rfl, e0⟩ | ⟨e0, ht⟩
    · rw [hsz] at e0
      have ex : xss = [] := List.eq_nil_of_length_eq_zero (by omega)
      exact ⟨.ref t', H, I.kept (t' := tk) hk, rfl, q0 ex⟩
    · have ex : xss ≠ [] := fun z => by
        rw [z, List.length_nil] at hxl
        rw [hsz] at e0
        omega
      · obtain ⟨n, e⟩ := hLO
        exact ⟨.ref t', _, I.laid (t' := tk) (o := .lst xss.flatten) hk ht ⟨hz, L.flatten, n, fl, e⟩, rfl, q1 ex t' (I.hok.fresh ht)⟩
end
end PL
/-! PG6: max, min of a tuple of ints. -/
namespace PL
open PySem PySem.Spec PyProof.Rows L2 PySem.W PySem.Calls
section
variable {prog : Program} {w : World} {A : Around} {E : Value → Shared → Prop} {s : Shared} {l : Addr} {xs : Array (Int × Tok)}
theorem max_intTup {Q : Value → Shared → Prop} (hh : A.handled = none) (hl : s.heap.IsTuple l (intItems xs)) (hne : 0 < xs.size)
    (h : ∀ v h' tk, (intItems xs)[argBest (fun i j => decide (numAt xs i > numAt xs j)) (xs.size - 1)]? = some v → (∀ b o, s.heap.get? b = some o → h'.get? b = some o) → Q v { s with heap := h', toks := tk }) :
    wpAny (model prog w) A (call (.builtin "max") [.ref l]) Q E s := by
  have hlt : l < s.heap.objs.size := by
    obtain ⟨o, ho, _⟩ := id hl
    exact Heap.lt_size ho
  refine call_max_walk (wpAny_pyIter_tuple hl ?_)
  refine ⟨_, [_, l], [_], _, _, _, _, rfl, Walks.tuple (A := A.in1) hh _ l (Nat.ne_of_lt hlt) (intItems xs), ⟨⟨_, Heap.get?_push_size _ rfl, rfl, rfl⟩, hl.push _⟩, fun c hc => ?_, by simpa [intItems] using hne, CmpOf.ints_gt (numAt xs) (fun _ _ => intItems_at), fun v h' tk hP hk => ?_⟩
  · show c < (s.heap.push _).objs.size
    rw [Heap.size_push]
    rcases List.mem_cons.mp hc with rfl | hc
    · exact Nat.lt_succ_self _
    · rcases List.mem_cons.mp hc with rfl | hc
      · exact Nat.lt_succ_of_lt hlt
      · cases hc
  · refine h v h' tk (by simpa [intItems] using hP) fun c o e => ?_
    refine hk c o ?_ (Heap.get?_push_of_some _ e)
    intro hm
    rcases List.mem_cons.mp hm with rfl | hm
    · exact absurd (Heap.lt_size e) (Nat.lt_irrefl _)
    · cases hm
theorem min_intTup {Q : Value → Shared → Prop} (hh : A.handled = none) (hl : s.heap.IsTuple l (intItems xs)) (hne : 0 < xs.size)
    (h : ∀ v h' tk, (intItems xs)[argBest (fun i j => decide (numAt xs i < numAt xs j)) (xs.size - 1)]? = some v → (∀ b o, s.heap.get? b = some o → h'.get? b = some o) → Q v { s with heap := h', toks := tk }) :
    wpAny (model prog w) A (call (.builtin "min") [.ref l]) Q E s := by
  have hlt : l < s.heap.objs.size := by
    obtain ⟨o, ho, _⟩ := id hl
    exact Heap.lt_size ho
  refine call_min_walk (wpAny_pyIter_tuple hl ?_)
  refine ⟨_, [_, l], [_], _, _, _, _, rfl, Walks.tuple (A := A.in1) hh _ l (Nat.ne_of_lt hlt) (intItems xs), ⟨⟨_, Heap.get?_push_size _ rfl, rfl, rfl⟩, hl.push _⟩, fun c hc => ?_, by simpa [intItems] using hne, CmpOf.ints_lt (numAt xs) (fun _ _ => intItems_at), fun v h' tk hP hk => ?_⟩
  · show c < (s.heap.push _).objs.size
    rw [Heap.size_push]
    rcases List.mem_cons.mp hc with rfl | hc
    · exact Nat.lt_succ_self _
    · rcases List.mem_cons.mp hc with rfl | hc
      · exact Nat.lt_succ_of_lt hlt
      · cases hc
  · refine h v h' tk (by simpa [intItems] using hP) fun c o e => ?_
    refine hk c o ?_ (Heap.get?_push_of_some _ e)
    intro hm
    rcases List.mem_cons.mp hm with rfl | hm
    · exact absurd (Heap.lt_size e) (Nat.lt_irrefl _)
    · cases hm
end
section
variable {prog : Program} {w : World} {A : Around} {E : Value → Shared → Prop} {s : Shared} {l : Addr} {its : List Value} {ns : List Int} {Q : Value → Shared → Prop}
theorem max_rawT (hh : A.handled = none) (hl : s.heap.IsTuple l its.toArray) (hi : IntsAre its ns) (hne : 0 < ns.length)
    (h : ∀ h' tk M t', (∀ b o, s.heap.get? b = some o → h'.get? b = some o) → M ∈ ns → (∀ a, a ∈ ns → a ≤ M) → Q (.int M t') { s with heap := h', toks := tk }) : wpAny (model prog w) A (call (.builtin "max") [.ref l]) Q E s := by
  obtain ⟨xs, e⟩ := hi.allInts.items
  have hn : numsOf (intItems xs).toList = ns := by rw [← e]; exact hi.numsOf
  rw [nums_intItems] at hn
  subst hn
  rw [e] at hl
  have hsz : 0 < xs.size := by simpa using hne
  refine max_intTup hh hl hsz fun v h' tk hv hk => ?_
  obtain ⟨t, rfl⟩ := intItems_at hv
  obtain ⟨h1, h2⟩ := argBest_gt (numAt xs) (xs.size - 1)
  refine h h' tk _ t hk ?_ fun a ha => ?_
  · rw [numAt_eq]; exact PySem.getD_mem (by rw [List.length_map, Array.length_toList]; omega)
  · obtain ⟨j, hj, rfl⟩ := mem_getD ha
    rw [List.length_map, Array.length_toList] at hj
    rw [← numAt_eq]; exact h2 j (by omega)
theorem min_rawT (hh : A.handled = none) (hl : s.heap.IsTuple l its.toArray) (hi : IntsAre its ns) (hne : 0 < ns.length)
    (h : ∀ h' tk M t', (∀ b o, s.heap.get? b = some o → h'.get? b = some o) → M ∈ ns → (∀ a, a ∈ ns → M ≤ a) → Q (.int M t') { s with heap := h', toks := tk }) : wpAny (model prog w) A (call (.builtin "min") [.ref l]) Q E s := by
  obtain ⟨xs, e⟩ := hi.allInts.items
  have hn : numsOf (intItems xs).toList = ns := by rw [← e]; exact hi.numsOf
  rw [nums_intItems] at hn
  subst hn
  rw [e] at hl
  have hsz : 0 < xs.size := by simpa using hne
  refine min_intTup hh hl hsz fun v h' tk hv hk => ?_
  obtain ⟨t, rfl⟩ := intItems_at hv
  obtain ⟨h1, h2⟩ := argBest_lt (numAt xs) (xs.size - 1)
  refine h h' tk _ t hk ?_ fun a ha => ?_
  · rw [numAt_eq]; exact PySem.getD_mem (by rw [List.length_map, Array.length_toList]; omega)
  · obtain ⟨j, hj, rfl⟩ := mem_getD ha
    rw [List.length_map, Array.length_toList] at hj
    rw [← numAt_eq]; exact h2 j (by omega)
end
section
variable {X : Cx}
def rMaxT (K : PySem.W.Frag) : List V → Hp → VK → Prop := fun vs H Q => ∃ (a : Addr) (ns : List Int), vs = [V.ref a] ∧ SqT K H a (ns.map V.int) ∧ 0 < ns.length ∧ ∀ m, m ∈ ns → (∀ y, y ∈ ns → y ≤ m) → Q (.int m) H
def rMinT (K : PySem.W.Frag) : List V → Hp → VK → Prop := fun vs H Q => ∃ (a : Addr) (ns : List Int), vs = [V.ref a] ∧ SqT K H a (ns.map V.int) ∧ 0 < ns.length ∧ ∀ m, m ∈ ns → (∀ y, y ∈ ns → m ≤ y) → Q (.int m) H
theorem cr_maxT (hc : X.calm = true) : CallR X (.builtin "max") (rMaxT X.K) := by
  intro pins s σ H vs us Q I r h
  obtain ⟨a, ns, rfl, hs, hne, q⟩ := h
  obtain ⟨its, rv, hl, _⟩ := I.tuple hs
  rw [Vals.ref1 r]
  exact max_rawT (I.ok.hd hc) (show s.heap.IsTuple a its.toArray from hl) rv.ints hne fun h' tk m t' hk h1 h2 => ⟨.int _, H, I.kept hk, ⟨_, rfl⟩, q m h1 h2⟩
theorem cr_minT (hc : X.calm = true) : CallR X (.builtin "min") (rMinT X.K) := by
  intro pins s σ H vs us Q I r h
  obtain ⟨a, ns, rfl, hs, hne, q⟩ := h
  obtain ⟨its, rv, hl, _⟩ := I.tuple hs
  rw [Vals.ref1 r]
  exact min_rawT (I.ok.hd hc) (show s.heap.IsTuple a its.toArray from hl) rv.ints hne fun h' tk m t' hk h1 h2 => ⟨.int _, H, I.kept hk, ⟨_, rfl⟩, q m h1 h2⟩
end
section
variable {X : Cx}
/-- a walk over what comes: a list, a tuple, a dict (which stays locked), a text -/
def iAny (K : PySem.W.Frag) (tl : TE) : TI := fun σ H R => tl σ H fun x H1 => (∃ a, x = .ref a ∧ (((∃ xs, SqL K H1 a xs) ∧ R (Itl K a) H1) ∨ ((∃ xs, SqT K H1 a xs) ∧ R (Itt K a) H1))) ∨
  (∃ d kvs, x = .ref d ∧ ((H1 d = some (.dK kvs) ∧ ∀ o, R (Itk d o kvs) (upd H1 d (.frz o (.dK kvs)))) ∨ ∃ o, H1 d = some (.frz o (.dK kvs)) ∧ R (Itk d o kvs) H1)) ∨ (∃ z, x = .str z ∧ R (Its z) H1)
theorem pi_any {tg l : Expr} {tl : TE} (hl : PE X l tl) : PI X tg l (iAny X.K tl) := by
  refine ⟨fun pins s σ H R I h => thn (hl.run pins s σ H _ I h) fun v s1 ⟨x, H1, I1, r1, q⟩ => ?_⟩
  rcases q with ⟨a, e, q⟩ | ⟨d, kvs, e, q⟩ | ⟨z, e, q⟩
  · subst e
    cases r1
    have fp : ∀ b ∈ [s1.heap.objs.size], FpOk X pins H1 b := fun b hb => by
      rw [List.mem_singleton] at hb
      subst hb
      exact I1.fpOk (Nat.le_refl _) (I1.hok.fresh (Nat.le_refl _))
    have kp : ∀ (o : Obj) (b : Addr) (u : Obj), s1.heap.get? b = some u → (s1.heap.push o).get? b = some u := fun o b u e => Heap.get?_push_of_some _ e
    rcases q with ⟨⟨xs, hq⟩, q⟩ | ⟨⟨xs, hq⟩, q⟩
    · obtain ⟨its, rv, p, hz⟩ := I1.list hq
      exact wpAny_pyIter_list p.isList ⟨_, _, _, _, H1, rfl, I1.kept (t' := s1.toks) (kp _), turn_list a _, ⟨_, Heap.get?_push_size _ rfl, rfl, rfl⟩, fp, q⟩
    · obtain ⟨its, rv, p, hz⟩ := I1.tuple hq
      exact wpAny_pyIter_tuple (show s1.heap.IsTuple a its.toArray from p) ⟨_, _, _, _, H1, rfl, I1.kept (t' := s1.toks) (kp _), turn_tuple a _, ⟨_, Heap.get?_push_size _ rfl, rfl, rfl⟩, fp, q⟩
  · subst e
    obtain rfl : v = Value.ref d := r1
    rcases q with ⟨e, q⟩ | ⟨o, e, q⟩
    · obtain ⟨o, I2⟩ := I1.lock e True.intro
      obtain ⟨hs, hgd, hx, es, ep, vs, hdt, hsz, kv, hm⟩ := I2.frzK upd_same
      refine iter_keys hs hgd hx hdt (pi_one (tk := s1.toks) I2 _ (turn_keys _ hdt) ⟨_, Heap.get?_push_size _ rfl, rfl, ?_⟩ (q o))
      rw [hsz] <;> rfl
    · obtain ⟨hs, hgd, hx, es, ep, vs, hdt, hsz, kv, hm⟩ := I1.frzK e
      refine iter_keys hs hgd hx hdt (pi_one (tk := s1.toks) I1 _ (turn_keys _ hdt) ⟨_, Heap.get?_push_size _ rfl, rfl, ?_⟩ q)
      rw [hsz] <;> rfl
  · subst e
    obtain ⟨t, rfl⟩ := r1
    cases ha : z.cps.all (· < 128)
    · exact wpAny_pyIter_wide ha (pi_one (tk := s1.toks) I1 _ (turn_str _ z t "str_iterator" (.inr rfl)) ⟨_, Heap.get?_push_size _ rfl, rfl, rfl⟩ q)
    · exact wpAny_pyIter_ascii ha (pi_one (tk := s1.toks) I1 _ (turn_str _ z t "str_ascii_iterator" (.inl rfl)) ⟨_, Heap.get?_push_size _ rfl, rfl, rfl⟩ q)
theorem call_lenDR : CallR X (.builtin "len") (fun xs H Q => ∃ a kvs, xs = [V.ref a] ∧ Rd H a (.dK kvs) ∧ Q (.int kvs.length) H) := by
  intro pins s σ H xs us Q I r h
  obtain ⟨a, kvs, rfl, ha, q⟩ := h
  obtain ⟨u, rfl, ru⟩ := vals1 r
  cases ru
  exact d_len I ha fun t s' I' => ⟨.int kvs.length, H, I', ⟨t, rfl⟩, q⟩
end
end PL
/-! PGX: x = [elt for t in it], where elt may raise. -/
namespace PL
open PySem PySem.Spec PyProof.Rows L2 PySem.W

theorem note_eq {e : Value} {env1 env2 : PySem.Env} (h : env1.frame = env2.frame) : noteFrame e env1 = noteFrame e env2 := by
  have hf : PySem.frameOf env1 = PySem.frameOf env2 := by unfold PySem.frameOf; rw [h]
  unfold noteFrame
  rw [h, hf]

section
open PySem.HandSPX
variable {M : Model} {A : Around} {E : Value → Shared → Prop} {s : Shared} {Z : Obj → Prop} {base : Heap} {env : PySem.Env} {outer l : List PySem.Env} {L L' e : Addr}
theorem rawInt_inj {a b : Addr} (h : (rawInt a == rawInt b) = true) : a = b := by
  have h := eq_of_beq h
  unfold rawInt at h
  injection h with h
  exact Int.ofNat.inj h
/-- noted elsewhere -/
theorem looks_offZ {Q : Unit → Shared → Prop} (hZ : Steady Z) (hfr : A.frames = some (env :: outer)) (hf : env.frame = some L) (hfl : HeldZ base (env :: outer) e Z L' s.heap) (hne : L' ≠ L)
    (hQ : ∀ h', HeldZ base (env :: outer) e Z L h' → s.heap.UpToSlots h' → Q () { s with heap := h' }) : wpAny M A (noteFrame (.ref e) env) Q E s := by
  obtain ⟨hkb, hen, hl, oe, vs, T, oT, ts, he, hz, hd, h1, hnT, hTe, hT, hdT, h3⟩ := hfl
  unfold noteFrame
  simp only [hf]
  refine wpAny_bind (wpAny_field he hd h1 ?_)
  rw [if_pos (show (Value.ref T != Value.none) = true from by simp)]
  refine wpAny_bind (wpAny_field hT hdT h3 ?_)
  rw [if_neg (fun z => hne (rawInt_inj z))]
  refine wpAny_bind (wpAny_setField hT hdT (Array.getElem?_eq_some_iff.mp h3).1 ?_)
  have other : ∀ b, b ≠ T → (s.heap.update T (Obj.mapFields (·.setIfInBounds 3 Value.none))).get? b = s.heap.get? b := fun b hb => Heap.get?_update_other _ _ (Ne.symm hb)
  have noRecord : ∀ b o, s.heap.get? b = some o → (∀ vs, o.data ≠ .fields vs) → b ≠ T := fun b o hb hnf q => by
    rw [q, hT] at hb; injection hb with hb; subst hb; exact hnf ts hdT
  refine wpAny_entryZ hZ hfr (hl.of_keeps fun b o hb hnf => ⟨o, (other b (noRecord b o hb hnf)).trans hb, rfl⟩) hf ((other e (Ne.symm hTe)).trans he)
    (fun b o hbo => (other b fun q => by rw [q, hnT] at hbo; cases hbo).trans (hkb b o hbo)) hen hd (Array.getElem?_eq_some_iff.mp h1).1 hz fun h' hN => ?_
  obtain ⟨x1, x2, x3, x4⟩ := hN
  exact hQ h' ⟨x1, hen, x2, x3⟩ fun b o hb hnf => x4 b o ((other b (noRecord b o hb hnf)).trans hb) hnf
theorem sky_note {Q : Unit → Shared → Prop} (hZ : Steady Z) (hfr : A.frames = some (env :: outer)) (hf : env.frame = some L) (x : Sky base (env :: outer) e Z L' s.heap)
    (hQ : ∀ h', HeldZ base (env :: outer) e Z L h' → s.heap.UpToSlots h' → Q () { s with heap := h' }) : wpAny M A (noteFrame (.ref e) env) Q E s := by
  rcases x with ⟨hB, hn, hl, oe, vs, he, hz, hd, h1⟩ | fl | hh
  · exact look_newZ hZ hfr hl hf he hB hn hd h1 hz hQ
  · exact looks_onZ hZ hfr hf fl hQ
  · by_cases h : L' = L
    · subst h
      exact againZ hf hh.2.2.2 (hQ _ hh (Heap.UpToSlots.refl _))
    · exact looks_offZ hZ hfr hf hh h hQ
end

/-! ### the block, its end by an exception told -/
def compPostX (M : Model) (A : Around) (E : Value → Shared → Prop) (use : Option (Value → Sem Unit)) (Q : Value → Shared → Prop) (acc : Value) (cenv : PySem.Env) (r : Result) (s' : Shared) : Prop :=
  match r, use with
  | .ok _, none => ∃ m, s'.heap.Ns cenv.locals m ∧ ∀ h', Heap.SameBut cenv.locals s'.heap h' → Q acc { s' with heap := h' }
  | .ok _, some u => wpAny M A (u acc) (fun _ s'' => ∃ m, s''.heap.Ns cenv.locals m ∧ ∀ h', Heap.SameBut cenv.locals s''.heap h' → Q .none { s'' with heap := h' }) E s'
  | .error x, _ => ∃ m, s'.heap.Ns cenv.locals m ∧ ∀ h', Heap.SameBut cenv.locals s'.heap h' → ∀ cenv' : PySem.Env, cenv'.frame = cenv.frame → wpAny M A (passOn "comprehension.variables-let-go" x cenv' : Sem Value) (fun _ _ => False) E { s' with heap := h' }
section
variable {M : Model} {A : Around} {E : Value → Shared → Prop} {s : Shared} {env : PySem.Env}
theorem comprehension_freeX {e : Expr} {scope : Scope} {pos : Pos} {newAcc first : Sem Value} {g : Comprehension} {gs : List Comprehension} {cl : List (Str × Addr)} {use : Option (Value → Sem Unit)}
    {Q : Value → Shared → Prop}
    (hcl : clausesOf e = g :: gs) (hs : ∀ x, foldedSetIterable g.iter env x = pure x) (hclos : closureFor scope env = pure cl)
    (hkind : scope.kind = .function) (hnames : ∀ x ∈ scope.names, x.2 = .local → scope.names.lookup x.1 = some .local)
    (h : wpAny M A first (fun x s₁ => wpAny M A (pyIter x) (fun it s₂ => wpAny M A newAcc (fun acc s₃ =>
      wpAny M A (newFunctionEnv scope env.globals cl [] env.qual none .none (some env)) (fun cenv s₄ =>
        codeAny M A (.compStart e 0 it acc { cenv with scope := relabel scope env }) (compPostX M A E use Q acc { cenv with scope := relabel scope env }) s₄) E s₃) E s₂) E s₁) E s) :
    wpAny M A (comprehension e scope env pos newAcc false first use) Q E s := by
  unfold comprehension
  rw [hclos, hcl]
  refine wpAny_bind (wpAny_mono h (fun x s₁ h₁ => wpAny_bind (wpAny_standAt (wpAny_bind (wpAny_of_eq (hs x) (wpAny_bind (wpAny_holding (wpAny_mono h₁ (fun it s₂ h₂ =>
    wpAny_standIf (wpAny_bind (wpAny_mono h₂ (fun acc s₃ h₃ => wpAny_bind (wpAny_pure (wpAny_bind (wpAny_mono h₃ (fun cenv s₄ h₄ => ?_) fun _ _ h' => h')))) fun _ _ h' => h')))
      fun _ _ h' => h'))))))) fun _ _ h' => h')
  dsimp only
  have hv : ∀ x ∈ (scope.names.filter fun x => (x.2 == .local || x.2 == .cell) && x.1 != (".0" : Str)).reverse, x.2 = .local →
      Env.kindOf { cenv with scope := relabel scope env } x.1 = some .local := fun x hx hl => lookup_relabel_local (hnames x (List.mem_filter.mp (List.mem_reverse.mp hx)).1 hl)
  have hv' : ∀ x ∈ (scope.names.filter fun x => (x.2 == .local || x.2 == .cell) && x.1 != (".0" : Str)).reverse.drop 1 ++ (scope.names.filter fun x => (x.2 == .local || x.2 == .cell) && x.1 != (".0" : Str)).reverse.take 1,
      x.2 = .local → Env.kindOf { cenv with scope := relabel scope env } x.1 = some .local := fun x hx hl => by
    rcases List.mem_append.mp hx with h1 | h1
    · exact hv x (List.mem_of_mem_drop h1) hl
    · exact hv x (List.mem_of_mem_take h1) hl
  refine wpAny_holding (wpAny_bind (wpAny_attempt (wpAny_holding (wpAny_run (codeAny_mono h₄ fun r s' hr => ?_)))))
  cases r with
  | ok f =>
    cases use with
    | none =>
      obtain ⟨m, hn, hr⟩ := hr
      exact wpAny_bind (wpAny_holding (wpAny_comp_letGo (cenv := { cenv with scope := relabel scope env }) hkind _ s' m hv hn fun h' m' _ hs' => wpAny_pure (hr h' hs')))
    | some u =>
      refine wpAny_bind (wpAny_rule (wpAny_bind (wpAny_holding (wpAny_mono hr (fun _ s'' hr' => ?_) fun _ _ h' => h'))))
      obtain ⟨m, hn, hr'⟩ := hr'
      exact wpAny_bind (wpAny_comp_letGo (cenv := { cenv with scope := relabel scope env }) hkind _ s'' m hv' hn fun h' m' _ hs' => wpAny_pure (hr' h' hs'))
  | error x =>
    have hr' : ∃ m, s'.heap.Ns cenv.locals m ∧ ∀ h', Heap.SameBut cenv.locals s'.heap h' → ∀ cenv' : PySem.Env, cenv'.frame = cenv.frame → wpAny M A (passOn "comprehension.variables-let-go" x cenv' : Sem Value) (fun _ _ => False) E { s' with heap := h' } := by cases use <;> exact hr
    obtain ⟨m, hn, hr⟩ := hr'
    exact wpAny_bind (wpAny_holding (wpAny_comp_letGo (cenv := { cenv with scope := relabel scope env }) hkind _ s' m hv hn fun h' m' _ hs' => wpAny_mono (hr h' hs' _ rfl) (fun _ _ f => f.elim) fun _ _ y => y))
end

section
variable {X : Cx}
/-- the block's exception, in our own air -/
theorem xe_out {W : WX} {s3 : Shared} {H3 : Hp} {scope : Scope} {ce : PySem.Env} {fp : List Addr} {pins pins0 : List (Addr × Obj)} {σ σ' : L2.St} {Hb : Hp} {use : Option (Value → Sem Unit)} {Qf : Value → Shared → Prop} {D : Value}
    (hst : X.stack = X.env :: X.outer) (hfr : X.env.frame = some X.env.locals) (tk : Takes X W) (I3 : Inv X pins σ H3 s3) (hfp : ∀ b ∈ fp, FpOk X pins H3 b) (hcf : ce.frame = X.env.frame) (hcL : ce.locals = s3.heap.objs.size) {sI s' : Shared} (Ib : Inv (X.blk s3 H3 scope ce fp) pins0 σ' Hb sI)
    {a : Addr} {B : Heap} {cls : Value} {d : Option Addr} (nb : ∀ b o, sI.heap.get? b = some o → b ∉ frs X.stack → B.get? b = some o) (up : sI.heap.UpToSlots s'.heap) (sky : Sky B X.stack a (Zc cls d) ce.locals s'.heap) (na : Hb a = none)
    (os : s'.os = sI.os) (ag : AllBare s'.gens) (w : W cls d σ Hb) :
    notedBy (model X.prog X.w) X.A ce (fun e s'' => compPostX (model X.prog X.w) X.A X.xe use Qf D ce (.error e) s'') (.ref a) s' := by
  have I7 : Inv X pins σ Hb sI := I3.call' (ch := fp) Ib.os Ib.base Ib.hok Ib.bare fun b hb => ⟨(hfp b hb).2.2.2.1, (hfp b hb).2.1, (hfp b hb).2.2.2.2.1, (hfp b hb).2.2.2.2.2⟩
  have nC : Hb ce.locals = none := Ib.free
  obtain ⟨f0, f1, f2, f3, f4, f5⟩ := I3.fpOk (H' := Hb) (Nat.le_of_eq hcL.symm) nC
  obtain ⟨m, hn, _⟩ := Ib.loc
  have hn : sI.heap.Ns ce.locals m := hn
  have frC : ce.locals ∉ frs X.stack := fun hm => by
    rcases List.mem_cons.mp (I3.stkSub _ hm) with z | z
    · exact f1 z
    · exact f2 z
  unfold notedBy
  rw [note_eq hcf]
  rw [hst] at sky
  have hframes : X.A.frames = some (X.env :: X.outer) := by rw [I3.ok.frames, hst]
  refine sky_note Zc.steady hframes hfr sky fun h1 hh up1 => ?_
  have upA := up.trans up1
  obtain ⟨oC, es, ep, hoC, hdC, rC⟩ := hn
  have nfC : ∀ vs, oC.data ≠ .fields vs := fun vs z => by rw [hdC] at z; cases z
  obtain ⟨sl, hC1⟩ := upA _ oC hoC nfC
  refine ⟨m, ⟨_, es, ep, hC1, hdC, rC⟩, fun h' sb cenv' hfe => ?_⟩
  obtain ⟨hkb, hen, hl, oe, vs, T, oT, ts, he, hz, hd, hv1, hnT, hTe, hT, hdT, h3⟩ := hh
  have aC : a ≠ ce.locals := fun z => by
    rw [z, hC1] at he
    cases he
    rw [hdC] at hd
    cases hd
  have tC : T ≠ ce.locals := fun z => by
    rw [z, hC1] at hT
    cases hT
    rw [hdC] at hdT
    cases hdT
  obtain ⟨B', g1, g2⟩ := restrict B fun b => decide (b ≠ ce.locals)
  have gB : ∀ b o, B'.get? b = some o → b ≠ ce.locals ∧ B.get? b = some o := fun b o e => by
    by_cases hb : b = ce.locals
    · rw [g2 b (by simp [hb])] at e; cases e
    · exact ⟨hb, by rw [← g1 b (by simp [hb])]; exact e⟩
  have Bn : ∀ b, B.get? b = none → B'.get? b = none := fun b e => by
    cases q : B'.get? b with
    | none => rfl
    | some o => rw [(gB b o q).2] at e; cases e
  have hl' : h'.FunFrames B' (X.env :: X.outer) := by
    have frn : ∀ L ∈ frs (X.env :: X.outer), B'.get? L = none := fun L hL => by
      obtain ⟨z, _⟩ := hl.mem hL
      exact Bn _ z
    have st : sI.heap.FunFrames X.base X.stack := I7.stack
    have go : ∀ l : List PySem.Env, (∀ b ∈ frs l, b ∈ frs X.stack) → h1.FunFrames B l → h'.FunFrames B' l := by
      intro l
      induction l with
      | nil => intro _ _; trivial
      | cons env r ih =>
        intro hs hl
        obtain ⟨hk, ⟨L, o, hf, hn, ho, hd⟩, hr⟩ := hl
        have hL : L ∈ frs X.stack := hs L (by unfold frs; rw [List.filterMap_cons, hf]; exact List.mem_cons_self)
        have ne : L ≠ ce.locals := fun z => frC (z ▸ hL)
        refine ⟨hk, ⟨L, o, hf, Bn _ hn, by rw [sb.2 L ne]; exact ho, hd⟩, ih (fun b hb => hs b ?_) hr⟩
        unfold frs
        rw [List.filterMap_cons, hf]
        exact List.mem_cons_of_mem _ hb
    exact go _ (fun b hb => by rw [hst]; exact hb) hl
  have held : HandSPX.HeldZ B' (X.env :: X.outer) a (Zc cls d) X.env.locals h' :=
    ⟨fun b o e => by
      obtain ⟨hb, e⟩ := gB b o e
      rw [sb.2 b hb]
      exact hkb b o e, Bn _ hen, hl', oe, vs, T, oT, ts, by rw [sb.2 a aC]; exact he, hz, hd, hv1, Bn _ hnT, hTe, by rw [sb.2 T tC]; exact hT, hdT, h3⟩
  unfold PySem.passOn
  refine wpAny_bind (wpAny_field (show h'.get? a = some oe by rw [sb.2 a aC]; exact he) hd hv1 ?_)
  rw [if_neg (show ¬ ((Value.ref T == Value.none) = true) from by simp)]
  rw [hfe, hcf, hfr]
  have fin : wpAny (model X.prog X.w) X.A (setFlight (.ref a) (some X.env.locals)) (fun _ s4 => wpAny (model X.prog X.w) X.A (throw (.ref a) : Sem Value) (fun _ _ => False) X.xe s4) X.xe { s' with heap := h' } := by
    refine HandSPX.setFlight_onZ held fun h2 hh2 up2 => wpAny_throw (tk _ _ ?_)
    obtain ⟨G, q1, q2⟩ := restrict sI.heap fun b => decide (b ≠ ce.locals)
    have gG : ∀ b o, G.get? b = some o → b ≠ ce.locals ∧ sI.heap.get? b = some o := fun b o e => by
      by_cases hb : b = ce.locals
      · rw [q2 b (by simp [hb])] at e; cases e
      · exact ⟨hb, by rw [← q1 b (by simp [hb])]; exact e⟩
    have J : Inv X pins σ Hb { sI with heap := G, toks := sI.toks } := I7.turned (t' := sI.toks) (it := ce.locals) (fun b o hb e => by rw [q1 b (by simp [hb])]; exact e) f0 f1 f3 f4 f5
    refine ⟨a, B', { sI with heap := G, toks := sI.toks }, pins, σ, Hb, cls, d, rfl, J, fun b o e hb => ?_, fun b o e hnf => ?_, .inr (.inr (by rw [hst]; exact hh2)), na, os, ag, w⟩
    · obtain ⟨hb', e⟩ := gG b o e
      rw [g1 b (by simp [hb'])]
      exact nb b o e hb
    · obtain ⟨hb', e⟩ := gG b o e
      obtain ⟨sl1, e1⟩ := upA b o e hnf
      have e2 : h'.get? b = some { o with slots := sl1 } := by rw [sb.2 b hb']; exact e1
      obtain ⟨sl2, e3⟩ := up2 b _ e2 hnf
      exact ⟨sl2, e3⟩
  first
    | exact wpAny_bind (wpAny_pure (wpAny_bind fin))
    | exact wpAny_bind fin
def Wout (W : WX) (σ : L2.St) : WX := fun cls d _ H' => W cls d σ H'
/-- x = [elt for target in iter if ..], elt may raise -/
theorem ps_setLcX {i : Nat} {y : Str} {py : Pos} {elt tg iter : Expr} {ifs : List Expr} {scope : Scope} {own : List (Str × Nat)} {pos spos : Pos} {wi : TI} {g : TG} {tt : TT} {te : WX → TE} {W : WX} (hst : X.stack = X.env :: X.outer) (hfr : X.env.frame = some X.env.locals) (tk : Takes X W)
    (hc : X.calm = true) (hN : X.N.Nodup) (hy : X.N[i]? = some y) (hyl : X.env.scope.names.lookup y = some .local)
    (hsw : swapsWith (.ListComp elt [⟨tg, iter, ifs, 0⟩] scope pos) (some (.Name y py)) spos.line X.env = pure true) (hi : PI X tg iter wi) (ok : BlkOk X.N X.env.scope scope own)
    (hg : ∀ (s : Shared) (H : Hp) (C : Addr) (cl : List (Str × Addr)) (fp : List Addr), PG (X.blk s H scope (compEnvC scope cl C X.env) fp) tg g) (ht : ∀ (s : Shared) (H : Hp) (C : Addr) (cl : List (Str × Addr)) (fp : List Addr), PTs (X.blk s H scope (compEnvC scope cl C X.env) fp) ifs tt)
    (he : ∀ (s : Shared) (H : Hp) (C : Addr) (cl : List (Str × Addr)) (fp : List Addr) (W' : WX) (pn : List (Addr × Obj)) (xe : Value → Shared → Prop), Takes ((X.blk s H scope (compEnvC scope cl C X.env) fp).tr pn xe) W' → PE ((X.blk s H scope (compEnvC scope cl C X.env) fp).tr pn xe) elt (te W'))
    (hs : ∀ x, foldedSetIterable iter X.env x = pure x) :
    PS X (.Assign [.Name y py] (.ListComp elt [⟨tg, iter, ifs, 0⟩] scope pos) spos) (fun D σ H => tLc wi g tt (te (Wout W σ)) (own.map (·.2)) σ H fun x H1 => gName i x σ H1 D.nx) := by
  refine ⟨fun pins s σ H Dn I h => ?_⟩
  rw [exec_Assign_Name_used _ _ _ _ hsw]
  refine wpAny_bind (wpAny_standAt (wpAny_bind ?_))
  show wpAny _ X.A (do let _ ← comprehension (.ListComp elt [⟨tg, iter, ifs, 0⟩] scope pos) scope X.env (firstIterPos [⟨tg, iter, ifs, 0⟩] pos) (newList []) false (eval iter X.env) (some (assign (.Name y py) X.env))) _ _ s
  refine wpAny_bind (wpAny_mono (Q := fun _ s' => SP X pins Dn .next s') ?_ (fun _ s' hq => wpAny_pure (wpAny_pure hq)) fun _ _ e => e)
  have hfree : ∀ y ∈ scope.names, y.2 = .free → ∃ c, X.env.cells.lookup y.1 = some c := fun y hy e => by
    rcases ok.free y hy e with k | k
    · exact I.ok.has _ (.inl k)
    · exact I.ok.has _ (.inr k)
  refine comprehension_freeX (use := some (assign (.Name y py) X.env)) rfl hs (closure_ok hfree) ok.kind (fun y hy e => by rw [ok.uniq y hy, e])
    (thn (hi.run pins s σ H _ I h) fun xv s1 hx => thn hx fun itv s2 h2 => ?_)
  obtain ⟨it, fp, tn, J, H2, e, I2, T, st2, f2, q⟩ := h2
  subst e
  refine wpAny_newObj_type (newEnv_comp ?_) (by show 0 ≤ sizeLine; decide)
  generalize hD : s2.heap.objs.size = D
  have hDn : H2 D = none := I2.hok.fresh (Nat.le_of_eq hD)
  obtain ⟨Vp, ⟨m0, w0⟩, turn⟩ := q D hDn
  generalize hs3 : ({ s2 with heap := s2.heap.push { cls := .type "list", data := .seq ([] : List Value).toArray } } : Shared) = s3
  have I3 : Inv X pins σ (upd H2 D (.lst [])) s3 := by
    rw [← hs3]
    refine I2.laid (t' := s2.toks) (fun b o e => Heap.get?_push_of_some _ e) (Nat.le_of_eq hD) ⟨Nat.zero_le _, [], 0, .nil, ?_⟩
    rw [← hD]
    exact Heap.get?_push_size _ rfl
  have h3 : s3.heap = s2.heap.push { cls := .type "list", data := .seq ([] : List Value).toArray } := by rw [← hs3]
  have sz : ∀ b ∈ fp, b < s2.heap.objs.size := fun b hb => by
    obtain ⟨o, e, _⟩ := T.obj _ _ st2 b hb
    exact Heap.lt_size e
  have f3 : ∀ b ∈ fp, FpOk X pins (upd H2 D (.lst [])) b ∧ b < s3.heap.objs.size := fun b hb => by
    have hlt := sz b hb
    refine ⟨⟨?_, (f2 b hb).2⟩, by rw [h3, Heap.size_push]; exact Nat.lt_succ_of_lt hlt⟩
    rw [upd_ne (by rw [← hD]; exact Nat.ne_of_lt hlt)]
    exact (f2 b hb).1
  have st3 : tn 0 s3.heap := T.keep _ _ _ st2 fun b _ o e => by rw [h3]; exact Heap.get?_push_of_some _ e
  have I4 := block_start I3 ok hN f3
  have pg := hg s3 (upd H2 D (.lst [])) s3.heap.objs.size (cellsFrom (s3.heap.objs.size + 1) scope.names (cloFrom X.env.cells scope.names [])) fp
  have pt := ht s3 (upd H2 D (.lst [])) s3.heap.objs.size (cellsFrom (s3.heap.objs.size + 1) scope.names (cloFrom X.env.cells scope.names [])) fp
  have pe := he s3 (upd H2 D (.lst [])) s3.heap.objs.size (cellsFrom (s3.heap.objs.size + 1) scope.names (cloFrom X.env.cells scope.names [])) fp
  show codeAny _ _ (.compStart (.ListComp elt [⟨tg, iter, ifs, 0⟩] scope pos) 0 (.ref it) (.ref D) (compEnvC scope (cellsFrom (s3.heap.objs.size + 1) scope.names (cloFrom X.env.cells scope.names [])) s3.heap.objs.size X.env))
    (compPostX (model X.prog X.w) X.A X.xe (some (assign (.Name y py) X.env)) (fun _ s' => SP X pins Dn .next s') (.ref D) (compEnvC scope (cellsFrom (s3.heap.objs.size + 1) scope.names (cloFrom X.env.cells scope.names [])) s3.heap.objs.size X.env)) { s3 with heap := pushCells (s3.heap.push { cls := .type "dict", data := .dict #[] }) scope.names }
  have nfp : ∀ b ∈ fp, (upd H2 D (.lst [])) b = none := fun b hb => (f3 b hb).1.1
  generalize hce : compEnvC scope (cellsFrom (s3.heap.objs.size + 1) scope.names (cloFrom X.env.cells scope.names [])) s3.heap.objs.size X.env = ce at I4 pg pt pe ⊢
  have cL : ce.locals = s3.heap.objs.size := by subst hce; rfl
  have cF : ce.frame = X.env.frame := by subst hce; rfl
  generalize hH3 : upd H2 D (.lst []) = H3 at I3 I4 pg pt pe w0 nfp f3
  generalize hs4 : ({ s3 with heap := pushCells (s3.heap.push { cls := .type "dict", data := .dict #[] }) scope.names } : Shared) = s4 at I4 ⊢
  have st4 : tn 0 s4.heap := T.keep _ _ _ st3 fun b _ o e => by rw [← hs4]; exact pushCells_keeps _ _ _ _ (Heap.get?_push_of_some _ e)
  have stat : ∀ {σ' : L2.St} {H' : Hp} {s' : Shared}, Inv (X.blk s3 H3 scope ce fp) [] σ' H' s' → (∀ b ∈ fp, H' b = none) → ∀ b ∈ fp, FpOk (X.blk s3 H3 scope ce fp) [] H' b := fun {σ' H' s'} I' hn b hb =>
    ⟨hn b hb, (I'.ok.exf b hb).1, I'.ok.exfs b hb, .inl hb, fun x c e => (I'.ok.exf b hb).2 x c e, fun p hp => absurd (show p ∈ ([] : List (Addr × Obj)) ++ [] from hp) (by simp)⟩
  have loop : codeAny (model X.prog X.w) X.A (.compLoop (.ListComp elt [⟨tg, iter, ifs, 0⟩] scope pos) 0 (.ref it) (.ref D) ce) (compPostX (model X.prog X.w) X.A X.xe (some (assign (.Name y py) X.env)) (fun _ s' => SP X pins Dn .next s') (.ref D) ce) s4 := by
    refine compLoop_any (fun n s' => ∃ i H', Inv (X.blk s3 H3 scope ce fp) [] (L2.wipe σ (own.map (·.2))) H' s' ∧ tn i s'.heap ∧ (∀ b ∈ fp, H' b = none) ∧ Vp i n H') ?_ m0 ⟨0, H3, I4, st4, nfp, w0⟩
    rintro n s5 ⟨i, H5, I5, st5, n5, w5⟩
    rcases turn i n H5 w5 with ⟨stop, qq⟩ | ⟨go, Nx, hNx, step⟩
    · have td := T.done (X.blk s3 H3 scope ce fp) rfl rfl rfl hc i [] s5 _ H5 (fun _ _ => False) I5 (stat I5 n5) st5 stop
      refine thnF td fun r s6 ⟨hr, I6⟩ => ?_
      subst hr
      have I7 : Inv X pins σ H5 s6 := I3.call' (ch := fp) I6.os I6.base I6.hok I6.bare fun b hb => ⟨(f3 b hb).1.2.2.2.1, (f3 b hb).1.2.1, (f3 b hb).1.2.2.2.2.1, (f3 b hb).1.2.2.2.2.2⟩
      have nC : H5 s3.heap.objs.size = none := by
        have z : H5 ce.locals = none := I6.free
        rw [cL] at z
        exact z
      obtain ⟨m, hn, _⟩ := I6.loc
      have hn : s6.heap.Ns ce.locals m := hn
      rw [cL] at hn
      show wpAny _ _ (assign (.Name y py) X.env (.ref D)) _ _ _
      refine wpAny_assign_Name (store_ok2 (v := V.ref D) I7 hN hy (.inl hyl) rfl (fun s8 I8 ⟨a, sb, ha⟩ => ?_) (.inr hyl))
      obtain ⟨f0, f1, f2, f3', f4, f5⟩ := I3.fpOk (Nat.le_refl _) nC
      have haC : s3.heap.objs.size ≠ a := by
        rcases ha with z | z
        · rw [z]; exact f1
        · exact fun e => f4 y a z e.symm
      refine ⟨m, by rw [cL]; exact hn.sameBut sb haC, fun h3 sb3 => ?_⟩
      rw [cL] at sb3
      exact ⟨_, H5, I8.turned (t' := s8.toks) (fun b o hb e => (sb3.2 b hb).trans e) f0 f1 f3' f4 f5, qq⟩
    · have ti := T.item (X.blk s3 H3 scope ce fp) rfl rfl rfl hc i [] s5 _ H5 (fun _ _ => False) I5 (stat I5 n5) st5 go
      refine thnF ti fun r s6 ⟨u, hr, h6⟩ => ?_
      subst hr
      refine thnF h6 fun _ s7 ⟨x, H7, I7, r7, y7, st7, n7⟩ => ?_
      have I7' := I7.pinned (stat I7 n7) (T.obj _ _ st7)
      refine thnF (pg.run _ s7 _ H7 x u _ I7' r7 (step x H7 y7)) fun _ s8 ⟨σ8, H8, I8, hw8, q8⟩ => ?_
      refine thnF (pt.run _ s8 σ8 H8 _ I8 q8) fun b s9 ⟨H9, I9, q9⟩ => ?_
      have fin : ∀ {s' : Shared} {H' : Hp}, Inv (X.blk s3 H3 scope ce fp) ([] ++ pinsAt fp s7.heap) σ8 H' s' → Nx H' → ∃ m, m < n ∧ ∃ i H', Inv (X.blk s3 H3 scope ce fp) [] (L2.wipe σ (own.map (·.2))) H' s' ∧ tn i s'.heap ∧ (∀ b ∈ fp, H' b = none) ∧ Vp i m H' := fun {s' H'} I' nx => by
        obtain ⟨m', hm, w'⟩ := hNx H' nx
        have pin' : ∀ b ∈ fp, ∀ o, s7.heap.get? b = some o → s'.heap.get? b = some o ∧ H' b = none := fun b hb o e =>
          let z := I'.pin (b, o) (List.mem_append_right _ (List.mem_append_right _ (mem_pinsAt hb e)))
          ⟨z.1, z.2.1⟩
        have hl : (L2.wipe σ (own.map (·.2))).length = σ8.length := by rw [← hw8, L2.wipe_length]
        refine ⟨m', hm, i + 1, H', (I'.unpinned (pins := [])).weak hl (fun j v e => ?_), T.keep _ _ _ st7 fun b hb o e => (pin' b hb o e).1, fun b hb => ?_, w'⟩
        · rw [← hw8] at e
          exact (wipe_some e).1
        · obtain ⟨o, e, _⟩ := T.obj _ _ st7 b hb
          exact (pin' b hb o e).2
      cases b with
      | false =>
        simp only [Bool.false_eq_true, if_false] at q9 ⊢
        exact fin I9 q9
      | true =>
        simp only [if_true] at q9 ⊢
        have okB := I9.ok
        have pe1 := pe (Wout W σ) ((X.blk s3 H3 scope ce fp).pn ++ ([] ++ pinsAt fp s7.heap)) (notedBy (model X.prog X.w) X.A ce (fun e s'' => compPostX (model X.prog X.w) X.A X.xe (some (assign (.Name y py) X.env)) (fun _ s' => SP X pins Dn .next s') (.ref D) ce (.error e) s'')) (fun u s' xx => by
          obtain ⟨a, B, sI, pins', σ', Hb, cls, d, rfl, Ib, nb, up, sky, na, os, ag, w⟩ := xx
          exact xe_out hst hfr tk I3 (fun b hb => (f3 b hb).1) cF cL (Ib.ofTry okB) nb up sky na os ag w)
        refine wpAny_mono (pe1.run [] s9 σ8 H9 _ (I9.toTry _) q9) (fun z s10 ⟨yv, H10, I10, r10, acc, hD10, hz10, nx⟩ => ?_) fun _ _ e => e
        exact wpAny_mono (app_ok (X := X.blk s3 H3 scope ce fp) (E := fun _ _ => False) (I10.ofTry okB) hD10 hz10 r10 fun s11 I11 => fin I11 nx) (fun _ _ q => q) fun _ _ z => z.elim
  exact codeAny_compStart_list loop (T.self X.A 0 _ _ _ st4 loop)
end
end PL
/-! PLG: d[k] with any key of d. -/
namespace PL
open PySem PySem.Spec PyProof.Rows L2 PySem.W
section
variable {X : Cx}
theorem ix_dict (hu : X.A.units + 1 < cLine) : IxR X (fun x y H Q => ∃ a v, x = .ref a ∧ DGet H a y (some v) ∧ Q v H) := by
  intro value slice pins s σ H x y v u Q I rx ry h hs
  obtain ⟨a, z, rfl, g, q⟩ := h
  cases (show v = Value.ref a from rx)
  exact tail_any (dict_typeIs I g) PySem.F.slot_dict_getitem.lookup (d_getItem hu I g ry fun w' s' I' r' => ⟨z, H, I', r', q⟩) hs
end
end PL
/-! PL4: items, slices, built-in functions, methods over data are those over the heap. -/
namespace PL
open PySem PySem.Spec PyProof.Rows L2 PySem.W
section
variable {K : PySem.W.Frag} {mg : Str → Option Value} {H I F : Hp} {μ : Mu}

/-! ### truth -/
theorem truth_ok {x : D} {v : V} {R : Bool → Prop} {Q : Bool → Hp → Prop} (h : HM K mg H I F μ) (rx : Rep K mg I x v) (k : ∀ c, R c → Q c H) (s : truth x μ R) : ∃ b, TruV K v H b ∧ Q b H := by
  have L := lim_le
  have seq : (∃ xs, items μ x = some xs ∧ R (!xs.isEmpty)) → ∃ b, TruV K v H b ∧ Q b H := fun ⟨xs, e, r⟩ => by
    obtain ⟨p, vs, rfl, hp, q⟩ := items_ok h rx e
    have ee : vs.isEmpty = xs.isEmpty := by
      have := q.length
      cases vs <;> cases xs <;> first | rfl | simp at this
    rw [← ee] at r
    rcases hp with hp | hp
    · exact ⟨_, .inl ⟨vs, hp, rfl⟩, k _ r⟩
    · exact ⟨_, .inr (.inl ⟨vs, hp, rfl⟩), k _ r⟩
  cases x with
  | non => cases rx; exact ⟨false, rfl, k _ s⟩
  | bl b => cases rx; exact ⟨b, rfl, k _ s⟩
  | int i => cases rx; exact ⟨_, rfl, k _ s⟩
  | str z =>
    cases rx
    refine ⟨_, ⟨Nat.le_trans s.1 L, rfl⟩, k _ ?_⟩
    have e : ((z.length : Int) != 0) = (z.length != 0) := by
      cases hz : z.length <;> simp
      omega
    rw [e]
    exact s.2
  | _ => exact seq s

/-! ### items -/
theorem ixN_len {n : Nat} {i : Int} {j : Nat} (h : ixN n i = some j) : j < n := (ixN_seq h).2.1
theorem atI_rep {ds : List D} {vs : List V} {i : Int} {d : D} (r : Reps K mg I ds vs) (e : atI ds i = some d) : ∃ v, atI vs i = some v ∧ Rep K mg I d v := by
  unfold atI at e ⊢
  rw [r.length]
  cases hj : ixN ds.length i with
  | none => rw [hj] at e; cases e
  | some j =>
    rw [hj] at e
    exact r.at e
def rIxA (K : PySem.W.Frag) : R2 := fun x y H Q => rIxL K x y H Q ∨ rIxT K x y H Q ∨ (∃ a v, x = .ref a ∧ DGet H a y (some v) ∧ Q v H) ∨ rIxS x y H Q
theorem ix_rule {X : Cx} (hu : X.A.units + 1 < cLine) : IxR X (rIxA X.K) := ix_list.or (ix_tup.or ((ix_dict hu).or ix_str))
theorem idx_ok {x y : D} {a b : V} {R : RD} {Q : VK} (h : HM K mg H I F μ) (k : KE K mg I F R Q) (rx : Rep K mg I x a) (ry : Rep K mg I y b) (s : opIdx x y μ R) : rIxA K a b H Q := by
  rcases s with ⟨xs, i, d, e, rfl, e2, s⟩ | ⟨ks, key, d, e, e2, e3, s⟩ | ⟨z, i, c, rfl, rfl, hz, e, s⟩
  · obtain ⟨p, vs, rfl, hp, q⟩ := items_ok h rx e
    obtain ⟨v, e4, rv⟩ := atI_rep q e2
    cases (show b = V.int i from ry)
    rcases hp with hp | hp
    · exact .inl ⟨p, vs, i, v, rfl, rfl, hp, e4, val_ok h k rv s⟩
    · exact .inr (.inl ⟨p, vs, i, v, rfl, rfl, hp, e4, val_ok h k rv s⟩)
  · obtain ⟨p, ws, rfl, hp, q⟩ := kitems_ok h rx e
    rw [key_ok ry e2]
    rcases q.look key with ⟨h1, _⟩ | ⟨d', v, h1, h2, h3⟩
    · rw [h1] at e3; cases e3
    · rw [h1] at e3
      cases e3
      refine .inr (.inr (.inl ⟨p, v, rfl, ?_, val_ok h k h3 s⟩))
      rw [← h2]
      exact DGet.kr hp
  · exact .inr (.inr (.inr ⟨z, i, c, rx, ry, Nat.le_trans hz lim_le, e, val_ok h k (d := .str ⟨#[c]⟩) rfl s⟩))

/-! ### slices -/
theorem Reps.cut {ds : List D} {vs : List V} (r : Reps K mg I ds vs) (lo hi : Option Int) : Reps K mg I (cutD ds lo hi) (cutV vs lo hi) := by
  unfold cutD cutV
  rw [r.length]
  exact (r.drop _).take _
def rSlAll (K : PySem.W.Frag) : V → Option Int → Option Int → Hp → VK → Prop := fun x lo hi H Q => rSlL K x lo hi H Q ∨ rSlA K x lo hi H Q ∨ rSlS x lo hi H Q
theorem sl_rule {X : Cx} : SlR X (rSlAll X.K) := sl_list.or (sl_tupA.or sl_str)
theorem slice_ok {m : Bool} {x : D} {lo hi : Option Int} {a : V} {R : RD} {Q : VK} (h : HM K mg H I F μ) (k : KE K mg I F R Q) (rx : Rep K mg I x a) (s : opSlice m x lo hi μ R) : rSlAll K a lo hi H Q := by
  have go : (∃ xs, ritems μ x = some xs ∧ mkL m (cutD xs lo hi) μ R) → rSlAll K a lo hi H Q := fun ⟨xs, e, s⟩ => by
    obtain ⟨p, vs, rfl, hp, q⟩ := ritems_ok h rx e
    exact .inl ⟨p, vs, rfl, hp, mkL_ok h k (q.cut lo hi) s⟩
  cases x with
  | tup xs =>
    obtain ⟨p, vs, rfl, hp, q⟩ := rx
    refine .inr (.inl ⟨p, vs, rfl, SqT.of (h.sub _ _ hp), fun w => ?_, fun _ => tup_ok h k (q.cut lo hi) s⟩)
    have e : cutD xs lo hi = xs := by
      unfold cutD
      rw [← q.length, w.1, w.2, List.drop_zero, Nat.sub_zero, q.length]
      exact List.take_length
    have s' : R (.tup xs) μ := by
      have s0 : R (.tup (cutD xs lo hi)) μ := s
      rw [e] at s0
      exact s0
    exact val_ok h k (d := .tup xs) ⟨p, vs, rfl, hp, q⟩ s'
  | str z => exact .inr (.inr ⟨z, rx, Nat.le_trans s.1 lim_le, val_ok h k (d := .str (cutS z lo hi)) rfl s.2⟩)
  | _ => exact go s
theorem rev_ok {m : Bool} {x : D} {a : V} {R : RD} {Q : VK} (h : HM K mg H I F μ) (k : KE K mg I F R Q) (rx : Rep K mg I x a) (s : opRev m x μ R) :
    ∃ p xs, a = .ref p ∧ ((SqL K H p xs ∧ ∀ q, H q = none → Q (.ref q) (upd H q (.lst xs.reverse))) ∨ (SqT K H p xs ∧ ∀ q, H q = none → Q (.ref q) (upd H q (.tup xs.reverse)))) := by
  have go : (∃ xs, ritems μ x = some xs ∧ mkL m xs.reverse μ R) → ∃ p xs, a = .ref p ∧ ((SqL K H p xs ∧ ∀ q, H q = none → Q (.ref q) (upd H q (.lst xs.reverse))) ∨ (SqT K H p xs ∧ ∀ q, H q = none → Q (.ref q) (upd H q (.tup xs.reverse)))) := fun ⟨xs, e, s⟩ => by
    obtain ⟨p, vs, rfl, hp, q⟩ := ritems_ok h rx e
    exact ⟨p, vs, rfl, .inl ⟨hp, mkL_ok h k q.reverse s⟩⟩
  cases x with
  | tup xs =>
    obtain ⟨p, vs, rfl, hp, q⟩ := rx
    exact ⟨p, vs, rfl, .inr ⟨SqT.of (h.sub _ _ hp), tup_ok h k q.reverse s⟩⟩
  | _ => exact go s

/-! ### isinstance -/
def tyName : Ty → String
  | .int => "int"
  | .bool => "bool"
  | .tuple => "tuple"
  | .list => "list"
  | .str => "str"
def dTy : D → String
  | .non => "NoneType"
  | .bl _ => "bool"
  | .int _ => "int"
  | .str _ => "str"
  | .tup _ => "tuple"
  | .lst _ => "list"
  | .dK _ => "dict"
  | _ => ""
theorem kit_tys : ∀ (t : Ty) (x : D), tyable μ x = true → PySem.W.kitOne K (.type (dTy x)) (.type (tyName t)) = some (isTy t x) := by
  have all : ∀ (t : Ty) (n : String) (b : Bool), n ∈ ["NoneType", "bool", "int", "str", "tuple", "list", "dict"] →
      b = (match t, n with
        | .int, "int" => true
        | .int, "bool" => true
        | .bool, "bool" => true
        | .tuple, "tuple" => true
        | .list, "list" => true
        | .str, "str" => true
        | _, _ => false) → kitB n (tyName t) = some b := by
    intro t n b hn hb
    simp only [List.mem_cons, List.not_mem_nil, or_false] at hn
    rcases hn with rfl | rfl | rfl | rfl | rfl | rfl | rfl <;> subst hb <;> cases t <;> decide +kernel
  intro t x hx
  refine kit_ty ?_
  cases x with
  | ref _ => cases hx
  | fn _ => cases hx
  | rd _ => cases hx
  | _ => exact all t _ _ (by simp [dTy]) (by cases t <;> rfl)
theorem tyx_ok {x : D} {v : V} (h : HM K mg H I F μ) (r : Rep K mg I x v) (hx : tyable μ x = true) : TyX K H v (.type (dTy x)) := by
  cases x with
  | non => cases r; exact .base .non
  | bl b => cases r; exact .base (.bl b)
  | int b => cases r; exact .base (.int b)
  | str b => cases r; exact .base (.str b)
  | tup _ => obtain ⟨p, vs, rfl, hp, _⟩ := r; exact .base (.tup (h.sub _ _ hp))
  | lst _ => obtain ⟨p, vs, rfl, hp, _⟩ := r; exact .base (.lst (h.sub _ _ hp))
  | dK _ =>
    obtain ⟨p, vs, rfl, hp, _⟩ := r
    rcases h.rd hp with e | ⟨ob, e⟩
    · exact .base (.dK e)
    · exact .fDict e
  | _ => cases hx

/-! ### built-in functions -/
theorem len_ok {x : D} {a : V} {R : RD} {Q : VK} (h : HM K mg H I F μ) (k : KE K mg I F R Q) (rx : Rep K mg I x a)
    (s : (∃ ys, items μ x = some ys ∧ R (.int ys.length) μ) ∨ (∃ ks, kitems μ x = some ks ∧ R (.int ks.length) μ) ∨ (∃ s, x = .str s ∧ s.length ≤ lim ∧ R (.int s.length) μ)) :
    (∃ n, LenV K a H n ∧ Q (.int n) H) ∨ ∃ p kvs, a = .ref p ∧ Rd H p (.dK kvs) ∧ Q (.int kvs.length) H := by
  rcases s with ⟨ys, e, s⟩ | ⟨ks, e, s⟩ | ⟨z, rfl, hz, s⟩
  · obtain ⟨p, vs, rfl, hp, q⟩ := items_ok h rx e
    refine .inl ⟨vs.length, ?_, val_ok h k (d := .int (vs.length : Nat)) rfl (by rw [q.length]; exact s)⟩
    rcases hp with hp | hp
    · exact .inl ⟨vs, hp, rfl⟩
    · exact .inr ⟨vs, hp, rfl⟩
  · obtain ⟨p, ws, rfl, hp, q⟩ := kitems_ok h rx e
    exact .inr ⟨p, ws, rfl, hp, val_ok h k (d := .int (ws.length : Nat)) rfl (by rw [q.length]; exact s)⟩
  · cases (show a = V.str z from rx)
    exact .inl ⟨z.length, ⟨Nat.le_trans hz lim_le, rfl⟩, val_ok h k (d := .int (z.length : Nat)) rfl s⟩
theorem mergeSort_reps {ds : List D} {vs : List V} (r : Reps K mg I ds vs) : ∃ bs : List (D × V), bs.map Prod.fst = ds ∧ bs.map Prod.snd = vs ∧ ∀ b ∈ bs, Rep K mg I b.1 b.2 := by
  induction ds generalizing vs with
  | nil => rw [show vs = [] from r]; exact ⟨[], rfl, rfl, fun _ hb => by cases hb⟩
  | cons d ds ih =>
    obtain ⟨v, w, rfl, r1, r2⟩ := r
    obtain ⟨bs, e1, e2, h⟩ := ih r2
    refine ⟨(d, v) :: bs, by rw [List.map_cons, e1], by rw [List.map_cons, e2], fun b hb => ?_⟩
    rcases List.mem_cons.mp hb with rfl | hb
    · exact r1
    · exact h b hb
theorem reps_map : ∀ {bs : List (D × V)}, (∀ b ∈ bs, Rep K mg I b.1 b.2) → Reps K mg I (bs.map Prod.fst) (bs.map Prod.snd)
  | [], _ => rfl
  | b :: bs, h => .cons (h b List.mem_cons_self) (reps_map fun c hc => h c (List.mem_cons_of_mem _ hc))
theorem toPys_enc : ∀ {ds : List D} {ps : List PyData}, toPys ds = some ps → ps = ds.map encD ∧ ∀ d ∈ ds, toPy d = some (encD d)
  | [], _, e => by cases e; exact ⟨rfl, fun _ h => by cases h⟩
  | d :: ds, _, e => by
    have e' : (match toPy d, toPys ds with
      | some p, some ps => some (p :: ps)
      | _, _ => none) = some _ := e
    cases e1 : toPy d with
    | none => rw [e1] at e'; cases e'
    | some p =>
      cases e2 : toPys ds with
      | none => rw [e1, e2] at e'; cases e'
      | some ps =>
        rw [e1, e2] at e'
        cases e'
        obtain ⟨h1, h2⟩ := toPys_enc e2
        have ep : encD d = p := by unfold encD; rw [e1]; rfl
        refine ⟨by rw [List.map_cons, ← h1, ep], fun c hc => ?_⟩
        rcases List.mem_cons.mp hc with rfl | hc
        · rw [e1, ep]
        · exact h2 c hc
theorem sorted_ok {m : Bool} {x : D} {a : V} {R : RD} {Q : VK} (h : HM K mg H I F μ) (k : KE K mg I F R Q) (rx : Rep K mg I x a)
    (s : ∃ ds ps, items μ x = some ds ∧ toPys ds = some ps ∧ AllAlike ps ∧ Sortable ps ∧ ds.length ≤ lim ∧ (∀ p ∈ ps, p.depth ≤ 60) ∧ mkL m (ds.mergeSort (dataLe false encD)) μ R) : rSortedD K [a] H Q := by
  obtain ⟨ds, ps, e1, e2, h1, h2, _, h3, s⟩ := s
  obtain ⟨p, vs, rfl, hp, q⟩ := items_ok h rx e1
  obtain ⟨bs, b1, b2, b3⟩ := mergeSort_reps q
  obtain ⟨t1, t2⟩ := toPys_enc e2
  have em : bs.map (fun b => encD b.1) = ps := by
    rw [t1, ← b1, List.map_map] <;> rfl
  have es : (bs.mergeSort (dataLe false fun b => encD b.1)).map Prod.fst = ds.mergeSort (dataLe false encD) := by
    rw [← b1]
    exact PySem.W.sort_maps Prod.fst fun a _ b _ => rfl
  refine ⟨p, D × V, bs, Prod.snd, fun b => encD b.1, rfl, by rw [b2]; exact hp, fun b hb => ?_, by rw [em]; exact h1, by rw [em]; exact h2, fun b hb => ?_, ?_⟩
  · exact dp_of h b.1 b.2 _ (b3 b hb) (t2 _ (by rw [← b1]; exact List.mem_map.mpr ⟨b, hb, rfl⟩))
  · exact h3 _ (by rw [← em]; exact List.mem_map.mpr ⟨b, hb, rfl⟩)
  · refine mkL_ok h k ?_ s
    rw [← es]
    exact reps_map fun b hb => b3 b ((List.mem_mergeSort).mp hb)
theorem bls_ok {x : D} {a : V} {bs : List Bool} (h : HM K mg H I F μ) (rx : Rep K mg I x a) (e : ritems μ x = some (bs.map D.bl)) : ∃ p, a = .ref p ∧ SqL K H p (bs.map V.bl) := by
  obtain ⟨p, vs, rfl, hp, q⟩ := ritems_ok h rx e
  rw [q.bls] at hp
  exact ⟨p, rfl, hp⟩
theorem ints_ok {x : D} {a : V} {ns : List Int} (h : HM K mg H I F μ) (rx : Rep K mg I x a) (e : ritems μ x = some (ns.map D.int)) : ∃ p, a = .ref p ∧ SqL K H p (ns.map V.int) := by
  obtain ⟨p, vs, rfl, hp, q⟩ := ritems_ok h rx e
  rw [q.ints] at hp
  exact ⟨p, rfl, hp⟩
theorem lsts_ok (h : HM K mg H I F μ) : ∀ {xss : List (List D)} {vs : List V}, Reps K mg I (xss.map D.lst) vs → ∃ ps yss, vs = ps.map V.ref ∧ Paired (fun p xs => H p = some (.lst xs)) ps yss ∧ Reps K mg I xss.flatten yss.flatten ∧ yss.length = xss.length
  | [], _, r => by rw [show _ = [] from r]; exact ⟨[], [], rfl, .nil, rfl, rfl⟩
  | xs :: xss, _, r => by
    obtain ⟨v, w, rfl, r1, r2⟩ := r
    obtain ⟨p, vs, rfl, hp, q⟩ := r1
    obtain ⟨ps, yss, rfl, h1, h2, h3⟩ := lsts_ok h r2
    exact ⟨p :: ps, vs :: yss, rfl, .cons (h.sub _ _ hp) h1, by rw [List.flatten_cons, List.flatten_cons]; exact q.append h2, by rw [List.length_cons, List.length_cons, h3]⟩

theorem itints_ok {x : D} {a : V} {ns : List Int} (h : HM K mg H I F μ) (rx : Rep K mg I x a) (e : items μ x = some (ns.map D.int)) : ∃ p, a = .ref p ∧ (SqL K H p (ns.map V.int) ∨ SqT K H p (ns.map V.int)) := by
  obtain ⟨p, vs, rfl, hp, q⟩ := items_ok h rx e
  rw [q.ints] at hp
  exact ⟨p, rfl, hp⟩
theorem strs_ok : ∀ {ys : List Str} {vs : List V}, Reps K mg I (ys.map D.str) vs → vs = ys.map V.str
  | [], _, r => r
  | y :: ys, _, r => by
    obtain ⟨v, w, rfl, r1, r2⟩ := r
    rw [strs_ok r2, show v = V.str y from r1] <;> rfl
theorem of_strs : ∀ {ys : List Str}, Reps K mg I (ys.map D.str) (ys.map V.str)
  | [] => rfl
  | y :: ys => .cons rfl of_strs
theorem split_ok {m : Bool} {x y : D} {a b : V} {R : RD} {Q : VK} (h : HM K mg H I F μ) (k : KE K mg I F R Q) (rx : Rep K mg I x a) (ry : Rep K mg I y b) (s : opSplit m x y μ R) :
    ∃ u v, a = .str u ∧ [b] = [.str v] ∧ (v.length == 0) = false ∧ u.length + 2 ≤ sizeLine ∧ rNewStrs (Txt.split u v) H Q := by
  obtain ⟨u, v, rfl, rfl, h0, h1, s⟩ := s
  cases (show a = V.str u from rx)
  cases (show b = V.str v from ry)
  refine ⟨u, v, rfl, rfl, by simpa using h0, ?_, mkL_ok h k of_strs s⟩
  unfold lim at h1
  rw [sizeLine_eq]
  omega
theorem join_ok {x y : D} {a b : V} {R : RD} {Q : VK} (h : HM K mg H I F μ) (k : KE K mg I F R Q) (rx : Rep K mg I x a) (ry : Rep K mg I y b) (s : opJoin x y μ R) :
    ∃ u p, ∃ ys : List Str, a = .str u ∧ [b] = [.ref p] ∧ (SqL K H p (ys.map V.str) ∨ SqT K H p (ys.map V.str)) ∧ (ys.map (·.length)).sum + ys.length * u.length ≤ 16777216 ∧ Q (.str (Txt.join u ys)) H := by
  obtain ⟨u, ys, rfl, e, h1, s⟩ := s
  cases (show a = V.str u from rx)
  obtain ⟨p, vs, rfl, hp, q⟩ := items_ok h ry e
  rw [strs_ok q] at hp
  unfold lim at h1
  exact ⟨u, p, ys, rfl, rfl, hp, by omega, val_ok h k (d := .str (Txt.join u ys)) rfl s⟩
/-! ### methods -/
theorem pop0_ok {x : D} {a : V} {R : RD} {Q : VK} (h : HM K mg H I F μ) (k : KE K mg I F R Q) (rx : Rep K mg I x a) (s : opMeth .pop x [] μ R) : rPop a [] H Q := by
  cases x with
  | ref l =>
    obtain ⟨ds, d, e, e2, s⟩ := s
    cases (show a = V.ref l from rx)
    obtain ⟨_, o, ho, vs, rfl, q⟩ := h.muts _ _ e
    obtain ⟨v, e3, rv⟩ := q.at e2
    refine ⟨l, vs, v, rfl, rfl, ho, by rw [q.length]; exact e3, ?_⟩
    exact k I _ _ d v (Ext.refl I) (h.put (m := .lst ds.dropLast) e ⟨_, rfl, q.dropLast⟩) rv s
  | _ => cases s
theorem pop1_ok {x y : D} {a b : V} {R : RD} {Q : VK} (h : HM K mg H I F μ) (k : KE K mg I F R Q) (rx : Rep K mg I x a) (ry : Rep K mg I y b) (s : opMeth .pop x [y] μ R) : rPopAt a [b] H Q := by
  cases x with
  | ref l =>
    cases y with
    | int i =>
      obtain ⟨ds, j, d, e, rfl, e2, hz, s⟩ := s
      cases (show a = V.ref l from rx)
      cases (show b = V.int ((j : Nat) : Int) from ry)
      obtain ⟨_, o, ho, vs, rfl, q⟩ := h.muts _ _ e
      obtain ⟨v, e3, rv⟩ := q.at e2
      have hj : j < vs.length := (List.getElem?_eq_some_iff.mp e3).1
      have hz2 : j < 1000000 := by
        have h1 : j < ds.length := (List.getElem?_eq_some_iff.mp e2).1
        have h2 : ds.length ≤ 1000000 := hz
        omega
      have hix : ixN vs.length ((j : Nat) : Int) = some j := by
        unfold ixN
        rw [if_pos (Int.natCast_nonneg j), if_pos (by omega)] <;> rfl
      exact ⟨l, vs, ((j : Nat) : Int), j, v, rfl, rfl, ho, by omega, by omega, (ixN_seq hix).1, e3, k I _ _ d v (Ext.refl I) (h.put (m := .lst (ds.eraseIdx j)) e ⟨_, rfl, Reps.eraseIdx j q⟩) rv s⟩
    | _ => cases s
  | _ => cases s
theorem app_ok' {x y : D} {a b : V} {R : RD} {Q : VK} (h : HM K mg H I F μ) (k : KE K mg I F R Q) (rx : Rep K mg I x a) (ry : Rep K mg I y b) (s : opMeth .append x [y] μ R) : rAppend a [b] H Q := by
  cases x with
  | ref l =>
    obtain ⟨ds, e, hz, s⟩ := s
    cases (show a = V.ref l from rx)
    obtain ⟨_, o, ho, vs, rfl, q⟩ := h.muts _ _ e
    refine ⟨l, vs, b, rfl, rfl, ho, by rw [q.length]; exact Nat.lt_of_lt_of_le hz lim_le, ?_⟩
    exact k I _ _ .non _ (Ext.refl I) (h.put (m := .lst (ds ++ [y])) e ⟨_, rfl, q.append (.cons ry .nil)⟩) rfl s
  | _ => cases s
theorem index_ok {x y : D} {a b : V} {R : RD} {Q : VK} (h : HM K mg H I F μ) (k : KE K mg I F R Q) (rx : Rep K mg I x a) (ry : Rep K mg I y b) (s : opMeth .index x [y] μ R) : rIndex K a [b] H Q := by
  have s' : ∃ ds j z, ritems μ x = some ds ∧ flatD y = true ∧ ds.all flatD = true ∧ ds[j]? = some z ∧ eqF z y = true ∧ (∀ (k : Nat) z', k < j → ds[k]? = some z' → eqF z' y = false) ∧ R (.int (j : Nat)) μ := by
    cases x <;> exact s
  obtain ⟨ds, j, z, e, f1, f2, e2, e3, e4, s⟩ := s'
  obtain ⟨p, vs, rfl, hp, q⟩ := ritems_ok h rx e
  obtain ⟨e1, g1⟩ := flat_rep ry f1
  obtain ⟨e5, g2⟩ := flat_reps q f2
  have at_ : ∀ (m : Nat) (w : V), vs[m]? = some w → ∃ z', ds[m]? = some z' ∧ w = toV z' := fun m w e => by
    rw [e5, List.getElem?_map] at e
    obtain ⟨z', h1, h2⟩ := Option.map_eq_some_iff.mp e
    exact ⟨z', h1, h2.symm⟩
  refine ⟨p, vs, b, j, toV z, rfl, rfl, hp, g1, g2, ?_, by rw [e1]; exact e3, fun m w hm he => ?_, val_ok h k (d := .int (j : Nat)) rfl s⟩
  · rw [e5, List.getElem?_map, e2] <;> rfl
  · obtain ⟨z', h1, rfl⟩ := at_ m w he
    rw [e1]
    exact e4 m z' hm h1
end
end PL
/-! PL5: the look that a text and its small form are one (chk). -/
namespace PL
open PySem PySem.Spec PyProof.Rows L2 PySem.W

/-- names: slots; the scope; the block's own scope where it is a comprehension's; not within an except suite -/
structure Sy where
  N : List Str
  sc : Scope
  blk : Option Scope
  calm : Bool
  xs : List Str
def Sy.fnb (S : Sy) (x : Str) : Bool := match S.blk with
  | none => true
  | some s => s.names.lookup x == some .cell
def Sy.inner (S : Sy) (scope : Scope) : Sy := ⟨S.N, relS scope S.sc, some scope, S.calm, S.xs⟩
def dbg : Str := "__debug__"
def visB (S : Sy) (i : Nat) (x : Str) : Bool := decide (S.N[i]? = some x) && (match S.sc.names.lookup x with
  | some .local => true
  | some .cell => true
  | some .free => true
  | _ => false) && (!(x == ("__debug__" : Str)) && !(x == ("__classdict__" : Str)))
def glB (S : Sy) (x : Str) : Bool := (match S.sc.names.lookup x with
  | some .globalImplicit => true
  | _ => false) && !(x == ("__debug__" : Str))
def locB (S : Sy) (i : Nat) (x : Str) : Bool := decide (S.N[i]? = some x) && (match S.sc.names.lookup x with
  | some .local => true
  | some .cell => S.fnb x
  | _ => false)
def notStar : Expr → Bool
  | .Starred _ _ => false
  | _ => true
def notSlice : Expr → Bool
  | .Slice _ _ _ _ => false
  | _ => true
def notSet : Expr → Bool
  | .Set _ _ _ => false
  | _ => true
def strRecv : Expr → Bool
  | .Name _ _ => true
  | .Subscript _ _ _ => true
  | .Constant _ _ _ => true
  | _ => false
def plainRecv : Expr → Bool
  | .Name _ _ => true
  | .Subscript _ _ _ => true
  | _ => false
def biName : Bi → Str
  | .len => "len"
  | .abs => "abs"
  | .int => "int"
  | .all => "all"
  | .any => "any"
  | .list => "list"
  | .tuple => "tuple"
  | .sorted => "sorted"
  | .sum => "sum"
  | .sumL => "sum"
  | .max => "max"
  | .min => "min"
  | .max2 => "max"
  | .min2 => "min"
  | .str => "str"
  | _ => ""
def biArgs : Bi → Nat
  | .sumL => 2
  | .max2 => 2
  | .min2 => 2
  | _ => 1
def mthName : Mth → Str
  | .pop => "pop"
  | .index => "index"
  | .append => "append"
def tyStr : Ty → Str
  | .int => "int"
  | .bool => "bool"
  | .tuple => "tuple"
  | .list => "list"
  | .str => "str"
def chkTs (S : Sy) : List Nat → List Expr → Bool
  | [], [] => true
  | i :: is, .Name x _ :: es => locB S i x && chkTs S is es
  | _, _ => false
def chkTg (S : Sy) (tg : List Nat) (tp : Bool) (t : Expr) : Bool := match tp, tg, t with
  | false, [i], .Name x _ => locB S i x
  | true, is, .Tuple es _ _ => chkTs S is es
  | _, _, _ => false
def ownOf (S : Sy) (own : List Nat) : List (Str × Nat) := own.map fun i => (S.N.getD i Str.empty, i)
theorem ownOf_snd (S : Sy) (own : List Nat) : (ownOf S own).map (·.2) = own := by
  unfold ownOf
  rw [List.map_map]
  exact List.map_id _
def sub1 (a b : List Nat) : Bool := a.all fun i => decide (i ∈ b)

def isCs : IE → Bool
  | .cs _ _ => true
  | _ => false
def cnt : IE → Nat
  | .cs _ b => cnt b + 1
  | _ => 0
/-- an enumerate wants a tuple target -/
def itTg : IE → Expr → Bool
  | .enum _, .Tuple _ _ _ => true
  | .enum _, _ => false
  | .zip _ _, .Tuple _ _ _ => true
  | .zip _ _, _ => false
  | _, _ => true
def chkBi (b : Bi) (S : Sy) (cs : Bool) (ck : Expr → Bool) (e : Expr) : Bool := match b with
  | .range => false
  | .setI => false
  | .lenSet => (match e with
    | .Call (.Name x _) [.Call (.Name y _) [a] [] p] [] _ => decide (x = "len") && decide (y = "set") && S.calm && glB S "len" && glB S "set" && cs && ck (.Tuple [a] 0 p)
    | _ => false)
  | .sortedSet => (match e with
    | .Call (.Name x _) [.Call (.Name y _) [a] [] p] [] _ => decide (x = "sorted") && decide (y = "set") && S.calm && glB S "sorted" && glB S "set" && cs && ck (.Tuple [a] 0 p)
    | _ => false)
  | b => (match e with
    | .Call (.Name x _) (y :: r) [] p => decide (x = biName b) && S.calm && glB S (biName b) && decide (r.length + 1 = biArgs b) && cs && ck (.Tuple (y :: r) 0 p)
    | _ => false)
def chkRg1 (S : Sy) (ck : Expr → Bool) (e : Expr) : Bool := match e with
  | .Call (.Name x _) [.Call (.Name y _) [a] [] _] [] _ => decide (x = "list") && decide (y = "range") && S.calm && glB S "list" && glB S "range" && notStar a && ck a
  | _ => false
def chkRg2 (S : Sy) (ck ck2 : Expr → Bool) (e : Expr) : Bool := match e with
  | .Call (.Name x _) [.Call (.Name y _) [a, b] [] _] [] _ => decide (x = "list") && decide (y = "range") && S.calm && glB S "list" && glB S "range" && notStar a && notStar b && ck a && ck2 b
  | _ => false
def chkIf (hc : Bool) (ifs : List Expr) (ck : Expr → Bool) : Bool := match hc, ifs with
  | false, [] => true
  | true, [f] => ck f
  | _, _ => false
def chkLc (S : Sy) (tg : List Nat) (tp hc : Bool) (own : List Nat) (okT ckI : Expr → Bool) (ckC ckE : Sy → Expr → Bool) (e : Expr) : Bool := match e with
  | .ListComp x [⟨t, i, ifs, as⟩] scope _ => decide (as = 0) && S.calm && notSet i && blkC S.N S.sc scope (ownOf S own) && sub1 tg own && chkTg (S.inner scope) tg tp t && ckI i && okT t && chkIf hc ifs (ckC (S.inner scope)) && ckE (S.inner scope) x
  | _ => false
def chkLc2 (S : Sy) (tg : List Nat) (tp hc : Bool) (tg1 : List Nat) (tp1 hc1 : Bool) (own : List Nat) (okT okT1 ckI : Expr → Bool) (ckC ckI1 ckC1 ckE : Sy → Expr → Bool) (e : Expr) : Bool := match e with
  | .ListComp x [⟨t, i, ifs, as⟩, ⟨t1, i1, ifs1, as1⟩] scope _ => decide (as = 0) && decide (as1 = 0) && S.calm && notSet i && notSet i1 && blkC S.N S.sc scope (ownOf S own) && sub1 tg own && sub1 tg1 own && chkTg (S.inner scope) tg tp t && chkTg (S.inner scope) tg1 tp1 t1 &&
      ckI i && okT t && ckI1 (S.inner scope) i1 && okT1 t1 && chkIf hc ifs (ckC (S.inner scope)) && chkIf hc1 ifs1 (ckC1 (S.inner scope)) && ckE (S.inner scope) x
  | _ => false
def chkDc (S : Sy) (tg : List Nat) (tp hc : Bool) (own : List Nat) (okT ckI : Expr → Bool) (ckC ckK ckV : Sy → Expr → Bool) (e : Expr) : Bool := match e with
  | .DictComp kx vx [⟨t, i, ifs, as⟩] scope _ => decide (as = 0) && S.calm && notSet i && blkC S.N S.sc scope (ownOf S own) && sub1 tg own && chkTg (S.inner scope) tg tp t && ckI i && okT t && chkIf hc ifs (ckC (S.inner scope)) && ckK (S.inner scope) kx && ckV (S.inner scope) vx
  | _ => false
/-- the text as the small form says -/
def chkE : IE → Sy → Expr → Bool
  | .var i, S, e => match e with
    | .Name x _ => visB S i x
    | _ => false
  | .int n, _, e => match e with
    | .Constant (.int k) _ _ => decide (k = n)
    | _ => false
  | .str n, _, e => match e with
    | .Constant (.str k) _ _ => decide (k = n)
    | _ => false
  | .bl n, _, e => match e with
    | .Constant (.bool k) _ _ => decide (k = n)
    | _ => false
  | .non, _, e => match e with
    | .Constant .none _ _ => true
    | _ => false
  | .glob x, S, e => match e with
    | .Name y _ => decide (y = x) && glB S x
    | _ => false
  | .fnv x, S, e => match e with
    | .Name y _ => decide (y = x) && glB S x
    | _ => false
  | .nl, _, _ => false
  | .cs a b, S, e => match e with
    | .Tuple (x :: r) k p => notStar x && chkE a S x && (match b, r with
      | .nl, [] => true
      | _, _ => isCs b && chkE b S (.Tuple r k p))
    | _ => false
  | .tup es, S, e => decide (cnt es ≤ 1000) && match e with
    | .Tuple l k p => (match es, l with
      | .nl, [] => true
      | _, _ => isCs es && chkE es S (.Tuple l k p))
    | _ => false
  | .lst _ es, S, e => decide (cnt es ≤ 1000) && match e with
    | .List l p => (match es, l with
      | .nl, [] => true
      | _, _ => isCs es && chkE es S (.Tuple l 0 p))
    | _ => false
  | .bin o _ a b, S, e => match e with
    | .BinOp l op r _ => decide (op = pyOp o) && chkE a S l && chkE b S r
    | _ => false
  | .cmp o a b, S, e => match e with
    | .Compare l [op] [r] _ => decide (op = pyCmp o) && S.calm && notSet r && chkE a S l && chkE b S r
    | _ => false
  | .chain o1 o2 a b c, S, e => match e with
    | .Compare l [op1, op2] [m, r] _ => decide (op1 = pyCmp o1) && decide (op2 = pyCmp o2) && S.calm && notSet m && notSet r && chkE a S l && chkE b S m && chkE c S r
    | _ => false
  | .and a b, S, e => match e with
    | .BoolOp .And (x :: y :: r) p => chkE a S x && (match r with
      | [] => chkE b S y
      | z :: r' => chkE b S (.BoolOp .And (y :: z :: r') p))
    | _ => false
  | .or a b, S, e => match e with
    | .BoolOp .Or (x :: y :: r) p => chkE a S x && (match r with
      | [] => chkE b S y
      | z :: r' => chkE b S (.BoolOp .Or (y :: z :: r') p))
    | _ => false
  | .not a, S, e => match e with
    | .UnaryOp .Not x _ => chkE a S x
    | _ => false
  | .neg a, S, e => match e with
    | .UnaryOp .USub x _ => chkE a S x
    | _ => false
  | .ite c a b, S, e => match e with
    | .IfExp t x y _ => chkE c S t && chkE a S x && chkE b S y
    | _ => false
  | .idx a i, S, e => match e with
    | .Subscript x s _ => S.calm && notSlice s && chkE a S x && chkE i S s
    | _ => false
  | .slice _ a lo hi, S, e => match e with
    | .Subscript x (.Slice l h none _) _ => chkE a S x && (match lo, l with
      | .nl, none => true
      | _, some l => chkE lo S l
      | _, _ => false) && (match hi, h with
      | .nl, none => true
      | _, some h => chkE hi S h
      | _, _ => false)
    | _ => false
  | .rev _ a, S, e => match e with
    | .Subscript x (.Slice none none (some (.UnaryOp .USub (.Constant (.int k) _ _) _)) _) _ => decide (k = 1) && chkE a S x
    | _ => false
  | .call f es, S, e => match e with
    | .Call (.Name x _) (y :: r) [] p => decide (x = f) && S.calm && glB S f && isCs es && chkE es S (.Tuple (y :: r) 0 p)
    | _ => false
  | .callv i es, S, e => match e with
    | .Call (.Name x _) (y :: r) [] p => visB S i x && S.calm && isCs es && chkE es S (.Tuple (y :: r) 0 p)
    | _ => false
  | .bi b _ es, S, e => chkBi b S (isCs es) (chkE es S) e
  | .rng1 _ a, S, e => chkRg1 S (chkE a S) e
  | .rng2 _ a b, S, e => chkRg2 S (chkE a S) (chkE b S) e
  | .inst a t, S, e => match e with
    | .Call (.Name x _) [y, .Name z _] [] _ => decide (x = "isinstance") && decide (z = tyStr t) && S.calm && glB S "isinstance" && glB S (tyStr t) && notStar y && chkE a S y
    | _ => false
  | .meth o n es, S, e => match e with
    | .Call (.Attribute x nm ap) l [] cp => decide (nm = mthName n) && S.calm && (ap.endLine == cp.line) && plainRecv x && decide (l.length ≤ 2) && chkE o S x && (match n, es, l with
      | .pop, .nl, [] => true
      | .pop, .cs b .nl, [y] => notStar y && chkE b S y
      | .append, .cs b .nl, [y] => notStar y && chkE b S y
      | .index, .cs b .nl, [y] => notStar y && chkE b S y
      | _, _, _ => false)
    | _ => false
  | .enum a, S, e => match e with
    | .Call (.Name x _) [y] [] _ => decide (x = "enumerate") && S.calm && glB S "enumerate" && notStar y && chkE a S y
    | _ => false
  | .range1 a, S, e => match e with
    | .Call (.Name x _) [y] [] _ => decide (x = "range") && S.calm && glB S "range" && notStar y && chkE a S y
    | _ => false
  | .range2 a b, S, e => match e with
    | .Call (.Name x _) [y, z] [] _ => decide (x = "range") && S.calm && glB S "range" && notStar y && notStar z && chkE a S y && chkE b S z
    | _ => false
  | .lc _ el tg tp it hc c own, S, e => chkLc S tg tp hc own (itTg it) (chkE it S) (fun S' => chkE c S') (fun S' => chkE el S') e
  | .lc2 _ el tg tp it hc c tg1 tp1 it1 hc1 c1 own, S, e => chkLc2 S tg tp hc tg1 tp1 hc1 own (itTg it) (itTg it1) (chkE it S) (fun S' => chkE c S') (fun S' => chkE it1 S') (fun S' => chkE c1 S') (fun S' => chkE el S') e
  | .dc k v tg tp it hc c own, S, e => chkDc S tg tp hc own (itTg it) (chkE it S) (fun S' => chkE c S') (fun S' => chkE k S') (fun S' => chkE v S') e
  | .dnew _, _, e => match e with
    | .Dict [] [] _ => true
    | _ => false
  | .chain3 o1 o2 o3 a b c d, S, e => match e with
    | .Compare l [op1, op2, op3] [m, r, x] _ => decide (op1 = pyCmp o1) && decide (op2 = pyCmp o2) && decide (op3 = pyCmp o3) && S.calm && notSet m && notSet r && notSet x && chkE a S l && chkE b S m && chkE c S r && chkE d S x
    | _ => false
  | .globS x, S, e => match e with
    | .Name y _ => decide (y = x) && glB S x
    | _ => false
  | .split _ a b, S, e => match e with
    | .Call (.Attribute x nm ap) [y] [] cp => decide (nm = "split") && (ap.endLine == cp.line) && strRecv x && notStar y && chkE a S x && chkE b S y
    | _ => false
  | .join a b, S, e => match e with
    | .Call (.Attribute x nm ap) [y] [] cp => decide (nm = "join") && (ap.endLine == cp.line) && strRecv x && notStar y && chkE a S x && chkE b S y
    | _ => false
  | .zip a b, S, e => match e with
    | .Call (.Name x _) [y, z] [] _ => decide (x = "zip") && glB S "zip" && notStar y && notStar z && chkE a S y && chkE b S z
    | _ => false
end PL
/-! PL6: each form of expression, from its parts. -/
namespace PL
open PySem PySem.Spec PyProof.Rows L2 PySem.W

/-- an own exception in the heap -/
def XRep (K : PySem.W.Frag) (mg : Str → Option Value) (I : Hp) (x : Exc) (cls : Value) (d : Option Addr) : Prop := ∃ C, mg x.c = some (.ref C) ∧ cls = .ref C ∧
  ((x.fs = [] ∧ d = none) ∨ ∃ f e dx v, x.fs = [(f, e)] ∧ d = some dx ∧ I dx = some (.xd [(f, v)]) ∧ Rep K mg I e v)
theorem XRep.mono {K : PySem.W.Frag} {mg : Str → Option Value} {I I' : Hp} {x : Exc} {cls : Value} {d : Option Addr} (x' : Ext I I') (r : XRep K mg I x cls d) : XRep K mg I' x cls d := by
  obtain ⟨C, h1, h2, h3⟩ := r
  refine ⟨C, h1, h2, ?_⟩
  rcases h3 with h3 | ⟨f, e, dx, v, q1, q2, q3, q4⟩
  · exact .inl h3
  · exact .inr ⟨f, e, dx, v, q1, q2, x'.get q3, Rep.mono x' _ _ q4⟩
def KX (K : PySem.W.Frag) (mg : Str → Option Value) (I F : Hp) (E : RX) (W : WX) (σ : L2.St) : Prop := ∀ x I' H' μ' cls dd, Ext I I' → HM K mg H' I' F μ' → XRep K mg I' x cls dd → E x μ' → W cls dd σ H'
theorem KX.mono {K : PySem.W.Frag} {mg : Str → Option Value} {I I' F : Hp} {E : RX} {W : WX} {σ : L2.St} (k : KX K mg I F E W σ) (x : Ext I I') : KX K mg I' F E W σ := fun y I2 H2 μ2 c d e => k y I2 H2 μ2 c d (x.trans e)
theorem KX.no {K : PySem.W.Frag} {mg : Str → Option Value} {I F : Hp} {W : WX} {σ : L2.St} : KX K mg I F (fun _ _ => False) W σ := fun _ _ _ _ _ _ _ _ _ z => z.elim

/-- a def's promise over the heap, from that over data -/
def spOf (K : PySem.W.Frag) (mg : Str → Option Value) (s : DSp) : Sp := fun vs H Q E => ∃ I F μ ds R X, HM K mg H I F μ ∧ Reps K mg I ds vs ∧ s.sp ds μ R X ∧ KE K mg I F R Q ∧
  ∀ x I' H' μ' cls dd, Ext I I' → HM K mg H' I' F μ' → XRep K mg I' x cls dd → X x μ' → E cls dd H'
theorem spOf_len {K : PySem.W.Frag} {mg : Str → Option Value} {s : DSp} {vs : List V} {H : Hp} {Q : VK} {E : XK} (h : spOf K mg s vs H Q E) : vs.length = s.n := by
  obtain ⟨I, F, μ, ds, R, X, _, r, q, _⟩ := h
  rw [r.length]
  exact s.len _ _ _ _ q

def bNames : List Str := ["len", "isinstance", "int", "bool", "tuple", "list", "str", "abs", "all", "any", "sorted", "sum", "max", "min", "range", "enumerate", "set", "zip"]
/-- __init__ of an own exception: self.f = its argument -/
def spInit (C : Addr) (f : Str) : Sp := fun vs H Q _ => ∃ a v, vs = [.ref a, v] ∧ H a = some (exo a C none) ∧ ∀ dx, H dx = none → dx ≠ a → Q .non (upd (upd H dx (exd dx [(f, v)])) a (exo a C (some dx)))
/-- an own exception class whose __init__ keeps one field -/
def Own1 (P : Program) (w : World) (K : PySem.W.Frag) (mg : Str → Option Value) (base : Heap) (c f : Str) : Prop := ∃ C fI fd p, mg c = some (.ref C) ∧ OexC K C ∧ PySem.W.findIn K (.ref C) "__init__" = some (some (.ref fI)) ∧
  PySem.W.typeIn K (.ref fI) = some (.type "function") ∧ XfC K C ∧ PySem.W.findIn K (.ref C) f = some none ∧ FnOk P w K mg base CX0 1 fI fd ["self", p] (spInit C f) ∧ Binds K fd ["self", p] []
/-- what is known of the module -/
structure Tab (P : Program) (w : World) (K : PySem.W.Frag) (mg : Str → Option Value) (base : Heap) (Φ : Md) (k : Nat) : Prop where
  fns : ∀ x s, Φ.fns x = some s → ∃ f fd ps, FnOk P w K mg base (L2.CX P w) k f fd ps (spOf K mg s) ∧ Binds K fd ps [] ∧ mg x = some (.ref f) ∧ PySem.W.keepIn K (.ref f) = true
  nums : ∀ x n, Φ.nums x = some n → ∃ t, mg x = some (.int n t)
  free : ∀ x ∈ bNames, mg x = none
  sub : ∀ c c' b, Φ.sub c c' = some b → ∃ C C', mg c = some (.ref C) ∧ mg c' = some (.ref C') ∧ PySem.W.exmOne K (.ref C) (.ref C') = some b
  own : ∀ c, Φ.own c = true → ∃ C, mg c = some (.ref C) ∧ PySem.W.excIn K C [.type "ValueError", .type "Exception", .type "BaseException", .type "object"] "ValueError.__new__" = true ∧ PySem.W.keepIn K (.ref C) = true ∧
    PySem.W.subIn K (.ref C) (.type "BaseException") = some true ∧ PySem.W.typeIn K (.ref C) = some (.type "type")
  txs : ∀ x n, Φ.txs x = some n → ∃ t, mg x = some (.str n t)
  own1 : ∀ c f, Φ.own1 c = some f → Own1 P w K mg base c f ∧ 2 ≤ k
/-- the rows of arguments, of a known length -/
def KLn (K : PySem.W.Frag) (mg : Str → Option Value) (I F : Hp) (n : Nat) (R : List D → Mu → Prop) (Q : List V → Hp → Prop) : Prop := ∀ I' H' μ' d v, Ext I I' → HM K mg H' I' F μ' → Reps K mg I' d v → d.length = n → R d μ' → Q v H'
structure Good (Φ : Md) (k : Nat) (S : Sy) (X : Cx) : Prop where
  tab : Tab X.prog X.w X.K X.mg X.base Φ k
  N : X.N = S.N
  sc : X.env.scope = S.sc
  fn : X.fn = S.fnb
  nd : S.N.Nodup
  calm : X.calm = S.calm
  room : S.calm = true → Room k X.A
  xs : ∀ c, c ∈ S.xs → ∃ C, X.mg c = some (.ref C)

section
variable (X : Cx) (Φ : Md)
def tE (ie : IE) (W : WX) : TE := fun σ H Q => ∃ I F μ ρ R E, HM X.K X.mg H I F μ ∧ Slots X.K X.mg I ρ σ ∧ semE Φ ie ρ μ R E ∧ KE X.K X.mg I F R Q ∧ KX X.K X.mg I F E W σ
def tT (ie : IE) (W : WX) : TT := fun σ H Q => ∃ I F μ ρ R E, HM X.K X.mg H I F μ ∧ Slots X.K X.mg I ρ σ ∧ semT Φ ie ρ μ R E ∧ KB X.K X.mg I F R Q ∧ KX X.K X.mg I F E W σ
def tA (ie : IE) (W : WX) : TA := fun σ H Q => ∃ I F μ ρ R E, HM X.K X.mg H I F μ ∧ Slots X.K X.mg I ρ σ ∧ semA Φ ie ρ μ R E ∧ KLn X.K X.mg I F (cnt ie) R Q ∧ KX X.K X.mg I F E W σ
def tO (ie : IE) (W : WX) : TO := fun σ H Q => ∃ I F μ ρ R E, HM X.K X.mg H I F μ ∧ Slots X.K X.mg I ρ σ ∧ semO Φ ie ρ μ R E ∧ KO X.K X.mg I F R Q ∧ KX X.K X.mg I F E W σ
def tC' (hc : Bool) (ie : IE) (W : WX) : TT := fun σ H Q => ∃ I F μ ρ R E, HM X.K X.mg H I F μ ∧ Slots X.K X.mg I ρ σ ∧ condT hc (semT Φ ie ρ μ) μ R E ∧ KB X.K X.mg I F R Q ∧ KX X.K X.mg I F E W σ
end
theorem PE.imp {X : Cx} {e : Expr} {t t' : TE} (h : PE X e t) (k : ∀ σ H Q, t' σ H Q → t σ H Q) : PE X e t' := ⟨fun pins s σ H Q I q => h.run pins s σ H Q I (k σ H Q q)⟩
theorem PT.imp {X : Cx} {e : Expr} {t t' : TT} (h : PT X e t) (k : ∀ σ H Q, t' σ H Q → t σ H Q) : PT X e t' := ⟨fun pins s σ H Q I q => h.run pins s σ H Q I (k σ H Q q)⟩
theorem PW.imp {X : Cx} {e : Expr} {t t' : TT} (h : PW X e t) (k : ∀ σ H Q, t' σ H Q → t σ H Q) : PW X e t' := ⟨fun wh pins s σ H Q I q => h.run wh pins s σ H Q I (k σ H Q q)⟩
theorem PA.imp {X : Cx} {e : List Expr} {t t' : TA} (h : PA X e t) (k : ∀ σ H Q, t' σ H Q → t σ H Q) : PA X e t' := ⟨fun p pins s σ H Q I q => h.run p pins s σ H Q I (k σ H Q q)⟩
theorem PO.imp {X : Cx} {e : Option Expr} {t t' : TO} (h : PO X e t) (k : ∀ σ H Q, t' σ H Q → t σ H Q) : PO X e t' := ⟨fun pins s σ H Q I q => h.run pins s σ H Q I (k σ H Q q)⟩
theorem PI.imp {X : Cx} {tg e : Expr} {t t' : TI} (h : PI X tg e t) (k : ∀ σ H Q, t' σ H Q → t σ H Q) : PI X tg e t' := ⟨fun pins s σ H Q I q => h.run pins s σ H Q I (k σ H Q q)⟩

section
variable {X : Cx} {Φ : Md} {W : WX} {σ : L2.St} {H I F : Hp} {μ : Mu} {ρ : Rho} {E : RX}
theorem tE_mk {a : IE} {P : RD} {Q : VK} (hm : HM X.K X.mg H I F μ) (hs : Slots X.K X.mg I ρ σ) (s : semE Φ a ρ μ P E) (kx : KX X.K X.mg I F E W σ)
    (k : ∀ I' H' μ' d v, Ext I I' → HM X.K X.mg H' I' F μ' → Slots X.K X.mg I' ρ σ → KX X.K X.mg I' F E W σ → Rep X.K X.mg I' d v → P d μ' → Q v H') : tE X Φ a W σ H Q :=
  ⟨I, F, μ, ρ, P, E, hm, hs, s, fun I' H' μ' d v x m r p => k I' H' μ' d v x m (hs.mono x) (kx.mono x) r p, kx⟩
theorem tT_mk {a : IE} {P : Bool → Mu → Prop} {Q : Bool → Hp → Prop} (hm : HM X.K X.mg H I F μ) (hs : Slots X.K X.mg I ρ σ) (s : semT Φ a ρ μ P E) (kx : KX X.K X.mg I F E W σ)
    (k : ∀ I' H' μ' b, Ext I I' → HM X.K X.mg H' I' F μ' → Slots X.K X.mg I' ρ σ → KX X.K X.mg I' F E W σ → P b μ' → Q b H') : tT X Φ a W σ H Q :=
  ⟨I, F, μ, ρ, P, E, hm, hs, s, fun I' H' μ' b x m p => k I' H' μ' b x m (hs.mono x) (kx.mono x) p, kx⟩
theorem tA_mk {a : IE} {P : List D → Mu → Prop} {Q : List V → Hp → Prop} (hm : HM X.K X.mg H I F μ) (hs : Slots X.K X.mg I ρ σ) (s : semA Φ a ρ μ P E) (kx : KX X.K X.mg I F E W σ)
    (k : ∀ I' H' μ' d v, Ext I I' → HM X.K X.mg H' I' F μ' → Slots X.K X.mg I' ρ σ → KX X.K X.mg I' F E W σ → Reps X.K X.mg I' d v → d.length = cnt a → P d μ' → Q v H') : tA X Φ a W σ H Q :=
  ⟨I, F, μ, ρ, P, E, hm, hs, s, fun I' H' μ' d v x m r n p => k I' H' μ' d v x m (hs.mono x) (kx.mono x) r n p, kx⟩
theorem tO_mk {a : IE} {P : Option Int → Mu → Prop} {Q : Option Int → Hp → Prop} (hm : HM X.K X.mg H I F μ) (hs : Slots X.K X.mg I ρ σ) (s : semO Φ a ρ μ P E) (kx : KX X.K X.mg I F E W σ)
    (k : ∀ I' H' μ' b, Ext I I' → HM X.K X.mg H' I' F μ' → Slots X.K X.mg I' ρ σ → KX X.K X.mg I' F E W σ → P b μ' → Q b H') : tO X Φ a W σ H Q :=
  ⟨I, F, μ, ρ, P, E, hm, hs, s, fun I' H' μ' b x m p => k I' H' μ' b x m (hs.mono x) (kx.mono x) p, kx⟩
theorem tC_mk {hc : Bool} {a : IE} {P : Bool → Mu → Prop} {Q : Bool → Hp → Prop} (hm : HM X.K X.mg H I F μ) (hs : Slots X.K X.mg I ρ σ) (s : condT hc (semT Φ a ρ μ) μ P E) (kx : KX X.K X.mg I F E W σ)
    (k : ∀ I' H' μ' b, Ext I I' → HM X.K X.mg H' I' F μ' → Slots X.K X.mg I' ρ σ → KX X.K X.mg I' F E W σ → P b μ' → Q b H') : tC' X Φ hc a W σ H Q :=
  ⟨I, F, μ, ρ, P, E, hm, hs, s, fun I' H' μ' b x m p => k I' H' μ' b x m (hs.mono x) (kx.mono x) p, kx⟩
end

section
variable {X : Cx} {Φ : Md} {W : WX} {S : Sy} {k : Nat} {a b c es : IE} {e l r x y : Expr} {pos : Pos}
theorem vis_ok (G : Good Φ k S X) {i : Nat} {n : Str} (h : visB S i n = true) : X.N[i]? = some n ∧ Vis X.env.scope n ∧ (n == ("__debug__" : Str)) = false ∧ (n == ("__classdict__" : Str)) = false := by
  unfold visB at h
  simp only [Bool.and_eq_true, decide_eq_true_eq, Bool.not_eq_true'] at h
  obtain ⟨⟨h1, h2⟩, h3, h4⟩ := h
  refine ⟨by rw [G.N]; exact h1, ?_, h3, h4⟩
  rw [G.sc]
  unfold Vis
  split at h2
  · exact .inl (by assumption)
  · exact .inr (.inl (by assumption))
  · exact .inr (.inr (by assumption))
  · cases h2
theorem gl_ok (G : Good Φ k S X) {n : Str} (h : glB S n = true) : Gl X n ∧ (n == ("__debug__" : Str)) = false := by
  unfold glB at h
  simp only [Bool.and_eq_true, Bool.not_eq_true'] at h
  obtain ⟨h1, h2⟩ := h
  refine ⟨?_, h2⟩
  show X.env.scope.names.lookup n = some .globalImplicit
  rw [G.sc]
  split at h1
  · assumption
  · cases h1
theorem loc_ok (G : Good Φ k S X) {i : Nat} {n : Str} (h : locB S i n = true) : X.N[i]? = some n ∧ Loc X.env.scope n ∧ (X.fn n = true ∨ X.env.scope.names.lookup n = some .local) := by
  unfold locB at h
  simp only [Bool.and_eq_true, decide_eq_true_eq] at h
  obtain ⟨h1, h2⟩ := h
  rw [G.sc, G.fn]
  refine ⟨by rw [G.N]; exact h1, ?_⟩
  split at h2
  · rename_i q
    exact ⟨.inl q, .inr q⟩
  · rename_i q
    exact ⟨.inr q, .inl h2⟩
  · cases h2

theorem c_var (G : Good Φ k S X) {i : Nat} {n : Str} (h : visB S i n = true) : PE X (.Name n pos) (tE X Φ (.var i) W) := by
  obtain ⟨h1, h2, h3, h4⟩ := vis_ok G h
  refine PE.imp (pe_var h1 h2 h3 h4) fun σ H Q q => ?_
  obtain ⟨I, F, μ, ρ, R, E, hm, hs, ⟨d, e, r⟩, ke, kx⟩ := q
  obtain ⟨v, e1, rv⟩ := hs.2 _ _ e
  exact ⟨v, e1, val_ok hm ke rv r⟩
theorem c_int {n : Int} {j : Nat} : PE X (.Constant (.int n) j pos) (tE X Φ (.int n) W) := PE.imp pe_int fun σ H Q ⟨I, F, μ, ρ, R, E, hm, hs, s, ke, kx⟩ => val_ok hm ke (d := .int n) rfl s
theorem c_str {n : Str} {j : Nat} : PE X (.Constant (.str n) j pos) (tE X Φ (.str n) W) := PE.imp pe_str fun σ H Q ⟨I, F, μ, ρ, R, E, hm, hs, s, ke, kx⟩ => val_ok hm ke (d := .str n) rfl s
theorem c_bl {n : Bool} {j : Nat} : PE X (.Constant (.bool n) j pos) (tE X Φ (.bl n) W) := PE.imp pe_bl fun σ H Q ⟨I, F, μ, ρ, R, E, hm, hs, s, ke, kx⟩ => val_ok hm ke (d := .bl n) rfl s
theorem c_non {j : Nat} : PE X (.Constant .none j pos) (tE X Φ .non W) := PE.imp pe_non fun σ H Q ⟨I, F, μ, ρ, R, E, hm, hs, s, ke, kx⟩ => val_ok hm ke (d := .non) rfl s
theorem c_glob (G : Good Φ k S X) {n : Str} (h : glB S n = true) : PE X (.Name n pos) (tE X Φ (.glob n) W) := by
  obtain ⟨h1, h2⟩ := gl_ok G h
  refine ⟨fun pins s σ H Q I q => ?_⟩
  obtain ⟨I0, F, μ, ρ, R, E, hm, hs, ⟨m, e, r⟩, ke, kx⟩ := q
  obtain ⟨t, ht⟩ := G.tab.nums _ _ e
  exact (pe_glob (v := .int m) h1 ht ⟨t, rfl⟩ h2).run pins s σ H Q I (val_ok hm ke (d := .int m) rfl r)
theorem c_globS (G : Good Φ k S X) {n : Str} (h : glB S n = true) : PE X (.Name n pos) (tE X Φ (.globS n) W) := by
  obtain ⟨h1, h2⟩ := gl_ok G h
  refine ⟨fun pins s σ H Q I q => ?_⟩
  obtain ⟨I0, F, μ, ρ, R, E, hm, hs, ⟨m, e, r⟩, ke, kx⟩ := q
  obtain ⟨t, ht⟩ := G.tab.txs _ _ e
  exact (pe_glob (v := .str m) h1 ht ⟨t, rfl⟩ h2).run pins s σ H Q I (val_ok hm ke (d := .str m) rfl r)
theorem c_fnv (G : Good Φ k S X) {n : Str} (h : glB S n = true) : PE X (.Name n pos) (tE X Φ (.fnv n) W) := by
  obtain ⟨h1, h2⟩ := gl_ok G h
  refine ⟨fun pins s σ H Q I q => ?_⟩
  obtain ⟨I0, F, μ, ρ, R, E, hm, hs, ⟨e, r⟩, ke, kx⟩ := q
  obtain ⟨sp, e⟩ := Option.isSome_iff_exists.mp e
  obtain ⟨f, fd, ps, F', b', m', k'⟩ := G.tab.fns _ _ e
  exact (pe_glob (v := .ref f) h1 m' rfl h2).run pins s σ H Q I (val_ok hm ke (d := .fn n) ⟨f, m', k', rfl⟩ r)

theorem c_nil : PA X [] (tA X Φ .nl W) := PA.imp pa_nil fun σ H Q ⟨I, F, μ, ρ, R, E, hm, hs, s, ke, kx⟩ => ke I H μ [] [] (Ext.refl I) hm rfl rfl s
theorem star_cons {e : Expr} {es : List Expr} {env : PySem.Env} (h : notStar e = true) : starEach (e :: es) env = (false, eval e env) :: starEach es env := by
  cases e <;> first | rfl | cases h
theorem c_cons {el : List Expr} (hn : notStar e = true) (ha : PE X e (tE X Φ a W)) (hb : PA X el (tA X Φ b W)) : PA X (e :: el) (tA X Φ (.cs a b) W) := by
  refine PA.imp (pa_cons ha hb (star_cons hn)) fun σ H Q ⟨I, F, μ, ρ, R, E, hm, hs, s, ke, kx⟩ => ?_
  refine tE_mk hm hs s kx fun I1 H1 μ1 d v x1 m1 s1 kx1 r1 p1 => ?_
  refine tA_mk m1 s1 p1 kx1 fun I2 H2 μ2 ds vs x2 m2 s2 kx2 r2 n2 p2 => ?_
  exact ke I2 H2 μ2 (d :: ds) (v :: vs) (x1.trans x2) m2 (.cons (Rep.mono x2 _ _ r1) r2) (congrArg Nat.succ n2) p2
theorem c_tup {el : List Expr} {j : Nat} (hl : cnt es ≤ 1000) (h : PA X el (tA X Φ es W)) : PE X (.Tuple el j pos) (tE X Φ (.tup es) W) := by
  refine PE.imp (pe_tup h) fun σ H Q ⟨I, F, μ, ρ, R, E, hm, hs, s, ke, kx⟩ => ?_
  refine tA_mk hm hs s kx fun I1 H1 μ1 d v x1 m1 s1 kx1 r1 n1 p1 => ?_
  exact ⟨by rw [r1.length, n1]; exact Nat.le_trans hl (by decide), tup_ok m1 (ke.mono x1) r1 p1⟩
theorem c_lst {el : List Expr} {m : Bool} (hl : cnt es ≤ 1000) (h : PA X el (tA X Φ es W)) : PE X (.List el pos) (tE X Φ (.lst m es) W) := by
  refine PE.imp (pe_lst h) fun σ H Q ⟨I, F, μ, ρ, R, E, hm, hs, s, ke, kx⟩ => ?_
  refine tA_mk hm hs s kx fun I1 H1 μ1 d v x1 m1 s1 kx1 r1 n1 p1 => ?_
  exact ⟨by rw [r1.length, n1]; exact Nat.le_trans hl (by decide), mkL_ok m1 (ke.mono x1) r1 p1⟩
theorem c_bin {o : BOp} {m : Bool} (ha : PE X l (tE X Φ a W)) (hb : PE X r (tE X Φ b W)) : PE X (.BinOp l (pyOp o) r pos) (tE X Φ (.bin o m a b) W) := by
  refine PE.imp (pe_op (bin_rule o) ha hb) fun σ H Q ⟨I, F, μ, ρ, R, E, hm, hs, s, ke, kx⟩ => ?_
  refine tE_mk hm hs s kx fun I1 H1 μ1 d v x1 m1 s1 kx1 r1 p1 => ?_
  refine tE_mk m1 s1 p1 kx1 fun I2 H2 μ2 d2 v2 x2 m2 s2 kx2 r2 p2 => ?_
  exact bin_ok m2 (ke.mono (x1.trans x2)) (Rep.mono x2 _ _ r1) r2 p2
theorem mark_ok {op : CmpOp} (h : notSet r = true) : behindInMarks op r = false := by
  cases r <;> first | rfl | cases h
theorem units_of (G : Good Φ k S X) (hc : S.calm = true) : X.A.units + 64 < cLine := (G.room hc).units
theorem c_cmp (G : Good Φ k S X) (hc : S.calm = true) {o : COp} (hn : notSet r = true) (ha : PE X l (tE X Φ a W)) (hb : PE X r (tE X Φ b W)) : PE X (.Compare l [pyCmp o] [r] pos) (tE X Φ (.cmp o a b) W) := by
  refine PE.imp (pe_cmpR (cmp_rule (units_of G hc) o) ha hb (mark_ok hn)) fun σ H Q ⟨I, F, μ, ρ, R, E, hm, hs, s, ke, kx⟩ => ?_
  refine tE_mk hm hs s kx fun I1 H1 μ1 d v x1 m1 s1 kx1 r1 p1 => ?_
  refine tE_mk m1 s1 p1 kx1 fun I2 H2 μ2 d2 v2 x2 m2 s2 kx2 r2 p2 => ?_
  exact cmp_ok m2 (Rep.mono x2 _ _ r1) r2 (fun q hq => ke I2 H2 μ2 (.bl q) _ (x1.trans x2) m2 rfl hq) p2
theorem c_cmpT (G : Good Φ k S X) (hc : S.calm = true) {o : COp} (hn : notSet r = true) (ha : PE X l (tE X Φ a W)) (hb : PE X r (tE X Φ b W)) : PT X (.Compare l [pyCmp o] [r] pos) (tT X Φ (.cmp o a b) W) := by
  refine PT.imp (pt_cmpR (cmp_rule (units_of G hc) o) ha hb (mark_ok hn)) fun σ H Q ⟨I, F, μ, ρ, R, E, hm, hs, s, ke, kx⟩ => ?_
  refine tE_mk hm hs s kx fun I1 H1 μ1 d v x1 m1 s1 kx1 r1 p1 => ?_
  refine tE_mk m1 s1 p1 kx1 fun I2 H2 μ2 d2 v2 x2 m2 s2 kx2 r2 p2 => ?_
  exact cmp_ok (Q := fun v H' => ∃ k, v = .bl k ∧ Q k H') m2 (Rep.mono x2 _ _ r1) r2 (fun q hq => ⟨q, rfl, ke I2 H2 μ2 q (x1.trans x2) m2 hq⟩) p2
theorem c_chain (G : Good Φ k S X) (hc : S.calm = true) {o1 o2 : COp} (ha : PE X l (tE X Φ a W)) (hb : PE X r (tE X Φ b W)) (hcc : PE X x (tE X Φ c W)) (h1 : notSet r = true) (h2 : notSet x = true) :
    PE X (.Compare l [pyCmp o1, pyCmp o2] [r, x] pos) (tE X Φ (.chain o1 o2 a b c) W) := by
  refine PE.imp (pe_chain (cmp_rule (units_of G hc) o1) (cmp_rule (units_of G hc) o2) ha hb hcc (mark_ok h2)) fun σ H Q ⟨I, F, μ, ρ, R, E, hm, hs, s, ke, kx⟩ => ?_
  refine tE_mk hm hs s kx fun I1 H1 μ1 d v x1 m1 s1 kx1 r1 p1 => ?_
  refine tE_mk m1 s1 p1 kx1 fun I2 H2 μ2 d2 v2 x2 m2 s2 kx2 r2 p2 => ?_
  refine cmp_ok (Q := fun z H3 => ∃ k, z = .bl k ∧ (if k = true then tE X Φ c W σ H3 fun w' H4 => rCmp X.K o2 v2 w' H4 Q else Q (.bl false) H3)) m2 (Rep.mono x2 _ _ r1) r2 (fun q hq => ⟨q, rfl, ?_⟩) p2
  cases q with
  | true =>
    rw [if_pos rfl]
    refine tE_mk m2 s2 hq kx2 fun I3 H3 μ3 d3 v3 x3 m3 s3 kx3 r3 p3 => ?_
    exact cmp_ok m3 (Rep.mono x3 _ _ r2) r3 (fun q hq => ke I3 H3 μ3 (.bl q) _ ((x1.trans x2).trans x3) m3 rfl hq) p3
  | false =>
    rw [if_neg Bool.false_ne_true]
    exact val_ok m2 (ke.mono (x1.trans x2)) (d := .bl false) rfl hq
theorem c_chainT (G : Good Φ k S X) (hc : S.calm = true) {o1 o2 : COp} (ha : PE X l (tE X Φ a W)) (hb : PE X r (tE X Φ b W)) (hcc : PE X x (tE X Φ c W)) (h1 : notSet r = true) (h2 : notSet x = true) :
    PT X (.Compare l [pyCmp o1, pyCmp o2] [r, x] pos) (tT X Φ (.chain o1 o2 a b c) W) := by
  refine PT.imp (pt_chain (cmp_rule (units_of G hc) o1) (cmp_rule (units_of G hc) o2) ha hb hcc (mark_ok h2)) fun σ H Q ⟨I, F, μ, ρ, R, E, hm, hs, s, ke, kx⟩ => ?_
  refine tE_mk hm hs s kx fun I1 H1 μ1 d v x1 m1 s1 kx1 r1 p1 => ?_
  refine tE_mk m1 s1 p1 kx1 fun I2 H2 μ2 d2 v2 x2 m2 s2 kx2 r2 p2 => ?_
  refine cmp_ok (Q := fun z H3 => ∃ k, z = .bl k ∧ (if k = true then tE X Φ c W σ H3 fun w' H4 => rCmp X.K o2 v2 w' H4 (fun z H5 => ∃ k, z = .bl k ∧ Q k H5) else ∃ k, V.bl false = .bl k ∧ Q k H3)) m2 (Rep.mono x2 _ _ r1) r2 (fun q hq => ⟨q, rfl, ?_⟩) p2
  cases q with
  | true =>
    rw [if_pos rfl]
    refine tE_mk m2 s2 hq kx2 fun I3 H3 μ3 d3 v3 x3 m3 s3 kx3 r3 p3 => ?_
    exact cmp_ok (Q := fun z H5 => ∃ k, z = .bl k ∧ Q k H5) m3 (Rep.mono x3 _ _ r2) r3 (fun q hq => ⟨q, rfl, ke I3 H3 μ3 q ((x1.trans x2).trans x3) m3 hq⟩) p3
  | false =>
    rw [if_neg Bool.false_ne_true]
    exact ⟨false, rfl, ke I2 H2 μ2 false (x1.trans x2) m2 hq⟩
/-- a op1 b op2 c op3 d -/
def tChain3 (r r' r3 : R2) (ta tb tc td : TE) : TE := fun σ H Q => ta σ H fun x H1 => tb σ H1 fun y H2 => r x y H2 fun z H3 => ∃ k, z = .bl k ∧
  (if k = true then tc σ H3 fun w' H4 => r' y w' H4 fun z H5 => ∃ k, z = .bl k ∧ (if k = true then td σ H5 fun u H6 => r3 w' u H6 Q else Q (.bl false) H5) else Q (.bl false) H3)
theorem pe_chain3 {op op' op3 : CmpOp} {r r' r3 : R2} {a b c d : Expr} {ta tb tc td : TE} (ho : OpR X (compareOp op) r) (ho' : OpR X (compareOp op') r') (ho3 : OpR X (compareOp op3) r3) (ha : PE X a ta) (hb : PE X b tb) (hc : PE X c tc) (hd : PE X d td)
    (hm : lastMarks [op, op', op3] [b, c, d] = false) : PE X (.Compare a [op, op', op3] [b, c, d] pos) (tChain3 r r' r3 ta tb tc td) := by
  refine ⟨fun pins s σ H Q I h => ?_⟩
  refine Compare_chain (thn (ha.run pins s σ H _ I h) fun v s1 ⟨x, H1, I1, r1, q1⟩ => chain_link (thn (hb.run pins s1 σ H1 _ I1 q1) fun u s2 ⟨y, H2, I2, r2, q2⟩ =>
    thn (ho pins s2 σ H2 x y v u _ I2 r1 r2 q2) fun d s3 ⟨z, H3, I3, r3, k, e, q3⟩ => ?_)) hm
  subst e
  cases r3
  refine wpAny_truthy_bool ?_
  cases k with
  | false => exact ite_ff ⟨.bl false, H3, I3, rfl, q3⟩
  | true =>
    refine ite_tt (chain_link (thn (hc.run pins s3 σ H3 _ I3 q3) fun w' s4 ⟨z', H4, I4, r4, q4⟩ => thn (ho' pins s4 σ H4 y z' u w' _ I4 r2 r4 q4) fun d' s5 ⟨z2, H5, I5, r5, k2, e2, q5⟩ => ?_))
    subst e2
    cases r5
    refine wpAny_truthy_bool ?_
    cases k2 with
    | false => exact ite_ff ⟨.bl false, H5, I5, rfl, q5⟩
    | true => exact ite_tt (chain_last (thn (hd.run pins s5 σ H5 _ I5 q5) fun w2 s6 ⟨z3, H6, I6, r6, q6⟩ => ho3 pins s6 σ H6 z' z3 w' w2 Q I6 r4 r6 q6))
theorem c_chain3 {d : IE} {x2 : Expr} (G : Good Φ k S X) (hc : S.calm = true) {o1 o2 o3 : COp} (ha : PE X l (tE X Φ a W)) (hb : PE X r (tE X Φ b W)) (hcc : PE X x (tE X Φ c W)) (hd : PE X x2 (tE X Φ d W)) (h3 : notSet x2 = true) :
    PE X (.Compare l [pyCmp o1, pyCmp o2, pyCmp o3] [r, x, x2] pos) (tE X Φ (.chain3 o1 o2 o3 a b c d) W) := by
  refine PE.imp (pe_chain3 (cmp_rule (units_of G hc) o1) (cmp_rule (units_of G hc) o2) (cmp_rule (units_of G hc) o3) ha hb hcc hd (mark_ok h3)) fun σ H Q ⟨I, F, μ, ρ, R, E, hm, hs, s, ke, kx⟩ => ?_
  refine tE_mk hm hs s kx fun I1 H1 μ1 d1 v x1 m1 s1 kx1 r1 p1 => ?_
  refine tE_mk m1 s1 p1 kx1 fun I2 H2 μ2 d2 v2 x2' m2 s2 kx2 r2 p2 => ?_
  refine cmp_ok (Q := fun z H3 => ∃ k, z = .bl k ∧ (if k = true then tE X Φ c W σ H3 fun w' H4 => rCmp X.K o2 v2 w' H4 fun z H5 => ∃ k, z = .bl k ∧ (if k = true then tE X Φ d W σ H5 fun u H6 => rCmp X.K o3 w' u H6 Q else Q (.bl false) H5) else Q (.bl false) H3)) m2 (Rep.mono x2' _ _ r1) r2 (fun q hq => ⟨q, rfl, ?_⟩) p2
  cases q with
  | true =>
    rw [if_pos rfl]
    refine tE_mk m2 s2 hq kx2 fun I3 H3 μ3 d3 v3 x3 m3 s3 kx3 r3 p3 => ?_
    refine cmp_ok (Q := fun z H5 => ∃ k, z = .bl k ∧ (if k = true then tE X Φ d W σ H5 fun u H6 => rCmp X.K o3 v3 u H6 Q else Q (.bl false) H5)) m3 (Rep.mono x3 _ _ r2) r3 (fun q hq => ⟨q, rfl, ?_⟩) p3
    cases q with
    | true =>
      rw [if_pos rfl]
      refine tE_mk m3 s3 hq kx3 fun I4 H4 μ4 d4 v4 x4 m4 s4 kx4 r4 p4 => ?_
      exact cmp_ok m4 (Rep.mono x4 _ _ r3) r4 (fun q hq => ke I4 H4 μ4 (.bl q) _ (((x1.trans x2').trans x3).trans x4) m4 rfl hq) p4
    | false =>
      rw [if_neg Bool.false_ne_true]
      exact val_ok m3 (ke.mono ((x1.trans x2').trans x3)) (d := .bl false) rfl hq
  | false =>
    rw [if_neg Bool.false_ne_true]
    exact val_ok m2 (ke.mono (x1.trans x2')) (d := .bl false) rfl hq
theorem c_and (ha : PE X x (tE X Φ a W)) {y' : Expr} {ys : List Expr} (hb : PE X (.BoolOp .And (y' :: ys) pos) (tE X Φ b W)) : PE X (.BoolOp .And (x :: y' :: ys) pos) (tE X Φ (.and a b) W) := by
  refine PE.imp (pe_and ha hb) fun σ H Q ⟨I, F, μ, ρ, R, E, hm, hs, s, ke, kx⟩ => ?_
  refine tE_mk hm hs s kx fun I1 H1 μ1 d v x1 m1 s1 kx1 r1 p1 => ?_
  obtain ⟨q, rfl, p1⟩ := p1
  refine ⟨q, r1, ?_⟩
  cases q with
  | true =>
    rw [if_pos rfl]
    exact ⟨I1, F, μ1, ρ, R, E, m1, s1, p1, ke.mono x1, kx1⟩
  | false =>
    rw [if_neg Bool.false_ne_true]
    exact val_ok m1 (ke.mono x1) (d := .bl false) rfl p1
theorem c_or (ha : PE X x (tE X Φ a W)) {y' : Expr} {ys : List Expr} (hb : PE X (.BoolOp .Or (y' :: ys) pos) (tE X Φ b W)) : PE X (.BoolOp .Or (x :: y' :: ys) pos) (tE X Φ (.or a b) W) := by
  refine PE.imp (pe_or ha hb) fun σ H Q ⟨I, F, μ, ρ, R, E, hm, hs, s, ke, kx⟩ => ?_
  refine tE_mk hm hs s kx fun I1 H1 μ1 d v x1 m1 s1 kx1 r1 p1 => ?_
  obtain ⟨q, rfl, p1⟩ := p1
  refine ⟨q, r1, ?_⟩
  cases q with
  | true =>
    rw [if_pos rfl]
    exact val_ok m1 (ke.mono x1) (d := .bl true) rfl p1
  | false =>
    rw [if_neg Bool.false_ne_true]
    exact ⟨I1, F, μ1, ρ, R, E, m1, s1, p1, ke.mono x1, kx1⟩
theorem c_not (ha : PE X x (tE X Φ a W)) : PE X (.UnaryOp .Not x pos) (tE X Φ (.not a) W) := by
  refine PE.imp (pe_not ha) fun σ H Q ⟨I, F, μ, ρ, R, E, hm, hs, s, ke, kx⟩ => ?_
  refine tE_mk hm hs s kx fun I1 H1 μ1 d v x1 m1 s1 kx1 r1 p1 => ?_
  obtain ⟨q, rfl, p1⟩ := p1
  exact ⟨q, r1, val_ok m1 (ke.mono x1) (d := .bl (!q)) rfl p1⟩
theorem c_neg (ha : PE X x (tE X Φ a W)) : PE X (.UnaryOp .USub x pos) (tE X Φ (.neg a) W) := by
  refine PE.imp (pe_un un_neg ha) fun σ H Q ⟨I, F, μ, ρ, R, E, hm, hs, s, ke, kx⟩ => ?_
  refine tE_mk hm hs s kx fun I1 H1 μ1 d v x1 m1 s1 kx1 r1 p1 => ?_
  obtain ⟨q, rfl, p1⟩ := p1
  exact ⟨q, r1, val_ok m1 (ke.mono x1) (d := .int (-q)) rfl p1⟩
theorem c_ite (hc : PT X e (tT X Φ c W)) (ha : PE X x (tE X Φ a W)) (hb : PE X y (tE X Φ b W)) : PE X (.IfExp e x y pos) (tE X Φ (.ite c a b) W) := by
  refine PE.imp (pe_ifExp hc ha hb) fun σ H Q ⟨I, F, μ, ρ, R, E, hm, hs, s, ke, kx⟩ => ?_
  refine tT_mk hm hs s kx fun I1 H1 μ1 q x1 m1 s1 kx1 p1 => ?_
  cases q with
  | true =>
    rw [if_pos rfl]
    exact ⟨I1, F, μ1, ρ, R, E, m1, s1, p1, ke.mono x1, kx1⟩
  | false =>
    rw [if_neg Bool.false_ne_true]
    exact ⟨I1, F, μ1, ρ, R, E, m1, s1, p1, ke.mono x1, kx1⟩
theorem plain_ix (h : notSlice y = true) : PlainIx y := by
  intro o i
  cases y <;> first | rfl | cases h
theorem c_idx (G : Good Φ k S X) (hc : S.calm = true) (hn : notSlice y = true) (ha : PE X x (tE X Φ a W)) (hb : PE X y (tE X Φ b W)) : PE X (.Subscript x y pos) (tE X Φ (.idx a b) W) := by
  have hu := units_of G hc
  refine PE.imp (pe_ix (ix_rule (by omega)) ha hb (plain_ix hn)) fun σ H Q ⟨I, F, μ, ρ, R, E, hm, hs, s, ke, kx⟩ => ?_
  refine tE_mk hm hs s kx fun I1 H1 μ1 d v x1 m1 s1 kx1 r1 p1 => ?_
  refine tE_mk m1 s1 p1 kx1 fun I2 H2 μ2 d2 v2 x2 m2 s2 kx2 r2 p2 => ?_
  exact idx_ok m2 (ke.mono (x1.trans x2)) (Rep.mono x2 _ _ r1) r2 p2
theorem c_slice {m : Bool} {lo hi : IE} {lo' hi' : Option Expr} {p2 : Pos} (ha : PE X x (tE X Φ a W)) (hl : PO X lo' (tO X Φ lo W)) (hh : PO X hi' (tO X Φ hi W)) : PE X (.Subscript x (.Slice lo' hi' none p2) pos) (tE X Φ (.slice m a lo hi) W) := by
  refine PE.imp (pe_slice sl_rule ha hl hh) fun σ H Q ⟨I, F, μ, ρ, R, E, hm, hs, s, ke, kx⟩ => ?_
  refine tE_mk hm hs s kx fun I1 H1 μ1 d v x1 m1 s1 kx1 r1 p1 => ?_
  refine tO_mk m1 s1 p1 kx1 fun I2 H2 μ2 o2 x2 m2 s2 kx2 p2 => ?_
  refine tO_mk m2 s2 p2 kx2 fun I3 H3 μ3 o3 x3 m3 s3 kx3 p3 => ?_
  exact slice_ok m3 (ke.mono ((x1.trans x2).trans x3)) (Rep.mono (x2.trans x3) _ _ r1) p3
theorem c_rev {m : Bool} {j : Nat} {p1 p2 p3 : Pos} (ha : PE X x (tE X Φ a W)) : PE X (.Subscript x (.Slice none none (some (.UnaryOp .USub (.Constant (.int 1) j p1) p2)) p3) pos) (tE X Φ (.rev m a) W) := by
  refine PE.imp (pe_revA ha) fun σ H Q ⟨I, F, μ, ρ, R, E, hm, hs, s, ke, kx⟩ => ?_
  refine tE_mk hm hs s kx fun I1 H1 μ1 d v x1 m1 s1 kx1 r1 p1 => ?_
  exact rev_ok m1 (ke.mono x1) r1 p1
/-- a part of a slice -/
theorem c_part {lo : IE} (ha : PE X x (tE X Φ lo W)) (h : ∀ ρ μ R E, semO Φ lo ρ μ R E → semE Φ lo ρ μ (fun z μ' => ∃ n, z = .int n ∧ R (some n) μ') E) : PO X (some x) (tO X Φ lo W) := by
  refine PO.imp (po_some ha) fun σ H Q ⟨I, F, μ, ρ, R, E, hm, hs, s, ke, kx⟩ => ?_
  refine tE_mk hm hs (h _ _ _ _ s) kx fun I1 H1 μ1 d v x1 m1 s1 kx1 r1 p1 => ?_
  obtain ⟨n, rfl, p1⟩ := p1
  exact ⟨n, r1, ke I1 H1 μ1 (some n) x1 m1 p1⟩
theorem c_nopart : PO X none (tO X Φ .nl W) := PO.imp po_none fun σ H Q ⟨I, F, μ, ρ, R, E, hm, hs, s, ke, kx⟩ => ke I H μ none (Ext.refl I) hm s

/-! ### calls -/
theorem star_any : ∀ {es : List Expr} {env : PySem.Env} {pos : Pos}, es.all notStar = true → (backTo pos (starEach es env)).any (·.1) = false
  | [], _, _, _ => rfl
  | e :: es, env, pos, h => by
    rw [List.all_cons, Bool.and_eq_true] at h
    rw [star_cons h.1]
    show (false || (backTo pos (starEach es env)).any (·.1)) = false
    rw [star_any h.2] <;> rfl
theorem sp_call {s : DSp} {es : IE} {σ : L2.St} {H : Hp} {Q : VK} (q : ∃ I F μ ρ R E, HM X.K X.mg H I F μ ∧ Slots X.K X.mg I ρ σ ∧ semA Φ es ρ μ (fun ds μ1 => s.sp ds μ1 R E) E ∧ KE X.K X.mg I F R Q ∧ KX X.K X.mg I F E W σ) :
    tCallS (spOf X.K X.mg s) (WE W) (tA X Φ es W) σ H Q := by
  obtain ⟨I, F, μ, ρ, R, E, hm, hs, sem, ke, kx⟩ := q
  refine tA_mk hm hs sem kx fun I1 H1 μ1 d v x1 m1 s1 kx1 r1 _ p1 => ?_
  exact ⟨I1, F, μ1, d, R, E, m1, r1, p1, ke.mono x1, fun z I' H' μ' cls dd x2 m2 xr ez => kx1 z I' H' μ' cls dd x2 m2 xr ez⟩
theorem c_call (G : Good Φ k S X) (hc : S.calm = true) (tk : Takes X W) {f : Str} {el : List Expr} (h : glB S f = true) (hn : (e :: el).all notStar = true) (ha : PA X (e :: el) (tA X Φ es W)) {p : Pos} : PE X (.Call (.Name f p) (e :: el) [] pos) (tE X Φ (.call f es) W) := by
  obtain ⟨h1, h2⟩ := gl_ok G h
  rw [List.all_cons, Bool.and_eq_true] at hn
  refine ⟨fun pins s σ H Q I q => ?_⟩
  obtain ⟨I0, F, μ, ρ, R, E, hm, hs, ⟨sp, e1, sem⟩, ke, kx⟩ := q
  obtain ⟨g, fd, ps, F', b', m', k'⟩ := G.tab.fns _ _ e1
  exact (pe_callS F' (G.room hc) h1 m' k' b' (passAt tk) ha h2 (star_cons hn.1) (star_any hn.2)).run pins s σ H Q I (sp_call ⟨I0, F, μ, ρ, R, E, hm, hs, sem, ke, kx⟩)
end
end PL
/-! PL7: calls of built-in functions, methods, tests. -/
namespace PL
open PySem PySem.Spec PyProof.Rows L2 PySem.W
section
variable {X : Cx} {Φ : Md} {W : WX} {S : Sy} {k : Nat} {a b c es : IE} {e l r x y : Expr} {pos : Pos}
/-- a call of a def that a slot holds, what it raises wished for -/
theorem pe_callLS {i : Nat} {f : Addr} {fd : FuncData} {ps : List Str} {sp : Sp} {E : L2.St → XK} {n : Str} {es : List Expr} {t : TA} (F : FnOk X.prog X.w X.K X.mg X.base (L2.CX X.prog X.w) k f fd ps sp) (hr : Room k X.A) (hN : X.N[i]? = some n) (hv : Vis X.env.scope n)
    (hk : PySem.W.keepIn X.K (.ref f) = true) (hb : Binds X.K fd ps []) (hx : ∀ σ, PassesAt (L2.CX X.prog X.w) X σ (E σ)) (ha : PA X (e :: es) t) (hdb : (n == ("__debug__" : Str)) = false) (hcd : (n == ("__classdict__" : Str)) = false)
    (he : starEach (e :: es) X.env = (false, eval e X.env) :: starEach es X.env) {p : Pos} (hpl : (backTo pos (starEach es X.env)).any (·.1) = false) :
    PE X (.Call (.Name n p) (e :: es) [] pos) (fun σ H Q => σ[i]? = some (some (.ref f)) ∧ tCallS sp E t σ H Q) := by
  refine ⟨fun pins s σ H Q I h => ?_⟩
  obtain ⟨hs, ht⟩ := h
  refine wpAny_Call_Name_kw (thn ((pe_var (pos := p) hN hv hdb hcd).run pins s σ H (fun v H1 => v = .ref f ∧ H1 = H) I ⟨.ref f, hs, rfl, rfl⟩) fun u s1 ⟨v, H1, I1, r1, q1⟩ => ?_)
  obtain ⟨rfl, rfl⟩ := q1
  cases r1
  refine PySem.W.callWith_K (h₀ := X.base) I.ok.mod.kin hk (thn (ha.run pos pins s1 σ _ _ I1 ht) fun us s2 ⟨vs, H2, I2, r, q⟩ => ⟨I2.kIn, ?_⟩) he hpl
  exact run_fnS F hr hb (hx σ) I2 r q
theorem c_callv (G : Good Φ k S X) (hc : S.calm = true) (tk : Takes X W) {i : Nat} {f : Str} {el : List Expr} {p : Pos} (h : visB S i f = true) (hn : (e :: el).all notStar = true) (ha : PA X (e :: el) (tA X Φ es W)) : PE X (.Call (.Name f p) (e :: el) [] pos) (tE X Φ (.callv i es) W) := by
  obtain ⟨h1, h2, h3, h4⟩ := vis_ok G h
  rw [List.all_cons, Bool.and_eq_true] at hn
  refine ⟨fun pins s σ H Q I q => ?_⟩
  obtain ⟨I0, F, μ, ρ, R, E, hm, hs, ⟨nm, sp, e0, e1, sem⟩, ke, kx⟩ := q
  obtain ⟨g, fd, ps, F', b', m', k'⟩ := G.tab.fns _ _ e1
  obtain ⟨v, e2, f', m2, k2, rfl⟩ := hs.2 _ _ e0
  rw [m'] at m2
  cases m2
  exact (pe_callLS F' (G.room hc) h1 h2 k' b' (passAt tk) ha h3 h4 (star_cons hn.1) (star_any hn.2)).run pins s σ H Q I ⟨e2, sp_call ⟨I0, F, μ, ρ, R, E, hm, hs, sem, ke, kx⟩⟩

/-! ### built-in functions -/
theorem free_ok (G : Good Φ k S X) {n : Str} (h : n ∈ bNames) : X.mg n = none := G.tab.free n h
/-- a built-in function by its rule -/
theorem c_biB {id : String} {n : Str} {el : List Expr} {rr : List V → Hp → VK → Prop} {b : Bi} {m : Bool} (G : Good Φ k S X) (h : glB S n = true) (hn : (e :: el).all notStar = true) (hf : n ∈ bNames) (hb : bootBuiltins n = some (.builtin id)) (hnn : n ≠ "__name__")
    (hc : CallR X (.builtin id) rr) (ha : PA X (e :: el) (tA X Φ es W))
    (ok : ∀ H I F μ ds vs R Q, HM X.K X.mg H I F μ → KE X.K X.mg I F R Q → Reps X.K X.mg I ds vs → opBi b m ds μ R → rr vs H Q) {p : Pos} : PE X (.Call (.Name n p) (e :: el) [] pos) (tE X Φ (.bi b m es) W) := by
  obtain ⟨h1, h2⟩ := gl_ok G h
  rw [List.all_cons, Bool.and_eq_true] at hn
  refine PE.imp (pe_callB hc h1 (free_ok G hf) hb ha hnn h2 (star_cons hn.1) (star_any hn.2)) fun σ H Q ⟨I, F, μ, ρ, R, E, hm, hs, s, ke, kx⟩ => ?_
  refine tA_mk hm hs s kx fun I1 H1 μ1 d v x1 m1 s1 kx1 r1 _ p1 => ?_
  exact ok _ _ _ _ _ _ _ _ m1 (ke.mono x1) r1 p1
theorem c_biT {id : String} {n : Str} {el : List Expr} {rr : List V → Hp → VK → Prop} {b : Bi} {m : Bool} (G : Good Φ k S X) (h : glB S n = true) (hn : (e :: el).all notStar = true) (hf : n ∈ bNames) (hb : bootBuiltins n = some (.type id)) (hnn : n ≠ "__name__")
    (hc : CallR X (.type id) rr) (ha : PA X (e :: el) (tA X Φ es W))
    (ok : ∀ H I F μ ds vs R Q, HM X.K X.mg H I F μ → KE X.K X.mg I F R Q → Reps X.K X.mg I ds vs → opBi b m ds μ R → rr vs H Q) {p : Pos} : PE X (.Call (.Name n p) (e :: el) [] pos) (tE X Φ (.bi b m es) W) := by
  obtain ⟨h1, h2⟩ := gl_ok G h
  rw [List.all_cons, Bool.and_eq_true] at hn
  refine PE.imp (pe_callTy hc h1 (free_ok G hf) hb ha hnn h2 (star_cons hn.1) (star_any hn.2)) fun σ H Q ⟨I, F, μ, ρ, R, E, hm, hs, s, ke, kx⟩ => ?_
  refine tA_mk hm hs s kx fun I1 H1 μ1 d v x1 m1 s1 kx1 r1 _ p1 => ?_
  exact ok _ _ _ _ _ _ _ _ m1 (ke.mono x1) r1 p1
end
section
variable {K : PySem.W.Frag} {mg : Str → Option Value} {H I F : Hp} {μ : Mu} {vs : List V} {R : RD} {Q : VK} {m : Bool}
theorem one_inv {P : D → Prop} {ds : List D} (r : Reps K mg I ds vs) (s : match ds with
    | [x] => P x
    | _ => False) : ∃ x v, vs = [v] ∧ Rep K mg I x v ∧ P x := by
  cases ds with
  | nil => cases s
  | cons x t =>
    cases t with
    | nil =>
      obtain ⟨v, w, rfl, r1, r2⟩ := r
      rw [show w = [] from r2]
      exact ⟨x, v, rfl, r1, s⟩
    | cons _ _ => cases s
theorem two_inv {P : D → D → Prop} {ds : List D} (r : Reps K mg I ds vs) (s : match ds with
    | [x, y] => P x y
    | _ => False) : ∃ x y v w, vs = [v, w] ∧ Rep K mg I x v ∧ Rep K mg I y w ∧ P x y := by
  cases ds with
  | nil => cases s
  | cons x t =>
    cases t with
    | nil => cases s
    | cons y t =>
      cases t with
      | nil =>
        obtain ⟨v, w, rfl, r1, r2⟩ := r
        obtain ⟨v2, w2, rfl, r3, r4⟩ := r2
        rw [show w2 = [] from r4]
        exact ⟨x, y, v, v2, rfl, r1, r3, s⟩
      | cons _ _ => cases s
theorem op_one {b : Bi} {ds : List D} (hb : biArgs b = 1 ∧ b ≠ .range) (s : opBi b m ds μ R) : ∃ x, ds = [x] := by
  cases ds with
  | nil => cases b <;> first | exact False.elim s | (exfalso; revert hb; decide)
  | cons x t =>
    cases t with
    | nil => exact ⟨x, rfl⟩
    | cons y t => cases b <;> first | exact False.elim s | (cases x <;> exact False.elim s) | (exfalso; revert hb; decide)
theorem op_two {b : Bi} {ds : List D} (hb : biArgs b = 2) (s : opBi b m ds μ R) : ∃ x y, ds = [x, y] := by
  cases ds with
  | nil => cases b <;> first | exact False.elim s | (exfalso; revert hb; decide)
  | cons x t =>
    cases t with
    | nil => cases b <;> first | exact False.elim s | (cases x <;> exact False.elim s) | (exfalso; revert hb; decide)
    | cons y t =>
      cases t with
      | nil => exact ⟨x, y, rfl⟩
      | cons z t => cases b <;> first | exact False.elim s | (cases x <;> exact False.elim s) | (cases x <;> cases y <;> exact False.elim s) | (exfalso; revert hb; decide)
theorem bi_len (h : HM K mg H I F μ) (ke : KE K mg I F R Q) {ds : List D} (r : Reps K mg I ds vs) (s : opBi .len m ds μ R) :
    (∃ x n, vs = [x] ∧ LenV K x H n ∧ Q (.int n) H) ∨ ∃ a kvs, vs = [V.ref a] ∧ Rd H a (.dK kvs) ∧ Q (.int kvs.length) H := by
  obtain ⟨x, rfl⟩ := op_one (by decide) s
  obtain ⟨v, w, rfl, r1, r2⟩ := r
  rw [show w = [] from r2]
  rcases len_ok h ke r1 s with ⟨n, h1, h2⟩ | ⟨p, kvs, rfl, h1, h2⟩
  · exact .inl ⟨v, n, rfl, h1, h2⟩
  · exact .inr ⟨p, kvs, rfl, h1, h2⟩
theorem bi_abs (h : HM K mg H I F μ) (ke : KE K mg I F R Q) {ds : List D} (r : Reps K mg I ds vs) (s : opBi .abs m ds μ R) : ∃ i, vs = [.int i] ∧ Q (.int (if i < 0 then -i else i)) H := by
  obtain ⟨x, rfl⟩ := op_one (by decide) s
  obtain ⟨v, w, rfl, r1, r2⟩ := r
  rw [show w = [] from r2]
  cases x with
  | int i => cases r1; exact ⟨i, rfl, val_ok h ke (d := .int (if i < 0 then -i else i)) rfl s⟩
  | _ => cases s
theorem bi_int (h : HM K mg H I F μ) (ke : KE K mg I F R Q) {ds : List D} (r : Reps K mg I ds vs) (s : opBi .int m ds μ R) : ((∃ i, vs = [.int i] ∧ Q (.int i) H) ∨ ∃ k, vs = [.bl k] ∧ Q (.int (if k then 1 else 0)) H) ∨ ∃ a n, vs = [.str a] ∧ PySem.intText? a = some n ∧ a.length ≤ 640 ∧ Q (.int n) H := by
  obtain ⟨x, rfl⟩ := op_one (by decide) s
  obtain ⟨v, w, rfl, r1, r2⟩ := r
  rw [show w = [] from r2]
  cases x with
  | int i => cases r1; exact .inl (.inl ⟨i, rfl, val_ok h ke (d := .int i) rfl s⟩)
  | bl i => cases r1; exact .inl (.inr ⟨i, rfl, val_ok h ke (d := .int (if i then 1 else 0)) rfl s⟩)
  | str z => cases r1; obtain ⟨n, s1, s2, s⟩ := s; exact .inr ⟨z, n, rfl, s1, s2, val_ok h ke (d := .int n) rfl s⟩
  | _ => cases s
theorem bi_str (h : HM K mg H I F μ) (ke : KE K mg I F R Q) {ds : List D} (r : Reps K mg I ds vs) (s : opBi .str m ds μ R) : (∃ i, vs = [.int i] ∧ i.natAbs.log2 < 1920 ∧ Q (.str (toString i)) H) ∨ ∃ a, vs = [.str a] ∧ Q (.str a) H := by
  obtain ⟨x, rfl⟩ := op_one (by decide) s
  obtain ⟨v, w, rfl, r1, r2⟩ := r
  rw [show w = [] from r2]
  cases x with
  | int i => cases r1; exact .inl ⟨i, rfl, s.1, val_ok h ke (d := .str (toString i)) rfl s.2⟩
  | str z => cases r1; exact .inr ⟨z, rfl, val_ok h ke (d := .str z) rfl s⟩
  | _ => cases s
theorem bi_all (h : HM K mg H I F μ) (ke : KE K mg I F R Q) {ds : List D} (r : Reps K mg I ds vs) (s : opBi .all m ds μ R) : rAll K vs H Q := by
  obtain ⟨x, rfl⟩ := op_one (by decide) s
  obtain ⟨v, w, rfl, r1, r2⟩ := r
  rw [show w = [] from r2]
  obtain ⟨bs, e, s⟩ := s
  obtain ⟨p, rfl, hp⟩ := bls_ok h r1 e
  exact ⟨p, bs, rfl, hp, val_ok h ke (d := .bl (bs.all id)) rfl s⟩
theorem bi_any (h : HM K mg H I F μ) (ke : KE K mg I F R Q) {ds : List D} (r : Reps K mg I ds vs) (s : opBi .any m ds μ R) : rAny K vs H Q := by
  obtain ⟨x, rfl⟩ := op_one (by decide) s
  obtain ⟨v, w, rfl, r1, r2⟩ := r
  rw [show w = [] from r2]
  obtain ⟨bs, e, s⟩ := s
  obtain ⟨p, rfl, hp⟩ := bls_ok h r1 e
  exact ⟨p, bs, rfl, hp, val_ok h ke (d := .bl (bs.any id)) rfl s⟩
theorem bi_list (h : HM K mg H I F μ) (ke : KE K mg I F R Q) {ds : List D} (r : Reps K mg I ds vs) (s : opBi .list m ds μ R) : ∃ p ys, vs = [.ref p] ∧ (SqL K H p ys ∨ SqT K H p ys) ∧ ∀ l, H l = none → Q (.ref l) (upd H l (.lst ys)) := by
  obtain ⟨x, rfl⟩ := op_one (by decide) s
  obtain ⟨v, w, rfl, r1, r2⟩ := r
  rw [show w = [] from r2]
  obtain ⟨ys, e, s⟩ := s
  obtain ⟨p, zs, rfl, hp, q⟩ := items_ok h r1 e
  exact ⟨p, zs, rfl, hp, mkL_ok h ke q s⟩
theorem bi_tuple (h : HM K mg H I F μ) (ke : KE K mg I F R Q) {ds : List D} (r : Reps K mg I ds vs) (s : opBi .tuple m ds μ R) : ∃ p ys, vs = [.ref p] ∧ ((SqL K H p ys ∧ ∀ l, H l = none → Q (.ref l) (upd H l (.tup ys))) ∨ (SqT K H p ys ∧ Q (.ref p) H)) := by
  obtain ⟨x, rfl⟩ := op_one (by decide) s
  obtain ⟨v, w, rfl, r1, r2⟩ := r
  rw [show w = [] from r2]
  obtain ⟨ys, e, s⟩ := s
  cases x with
  | tup zs =>
    cases e
    obtain ⟨p, us, rfl, hp, q⟩ := r1
    exact ⟨p, us, rfl, .inr ⟨SqT.of (h.sub _ _ hp), val_ok h ke (d := .tup ys) ⟨p, us, rfl, hp, q⟩ s⟩⟩
  | lst zs =>
    obtain ⟨p, us, rfl, hp, q⟩ := ritems_ok h r1 e
    exact ⟨p, us, rfl, .inl ⟨hp, tup_ok h ke q s⟩⟩
  | ref zs =>
    obtain ⟨p, us, rfl, hp, q⟩ := ritems_ok h r1 e
    exact ⟨p, us, rfl, .inl ⟨hp, tup_ok h ke q s⟩⟩
  | rd zs =>
    obtain ⟨p, us, rfl, hp, q⟩ := ritems_ok h r1 e
    exact ⟨p, us, rfl, .inl ⟨hp, tup_ok h ke q s⟩⟩
  | _ => cases e
theorem bi_sorted (h : HM K mg H I F μ) (ke : KE K mg I F R Q) {ds : List D} (r : Reps K mg I ds vs) (s : opBi .sorted m ds μ R) : rSortedD K vs H Q := by
  obtain ⟨x, rfl⟩ := op_one (by decide) s
  obtain ⟨v, w, rfl, r1, r2⟩ := r
  rw [show w = [] from r2]
  exact sorted_ok h ke r1 s
theorem bi_sum (h : HM K mg H I F μ) (ke : KE K mg I F R Q) {ds : List D} (r : Reps K mg I ds vs) (s : opBi .sum m ds μ R) : rSum K vs H Q := by
  obtain ⟨x, rfl⟩ := op_one (by decide) s
  obtain ⟨v, w, rfl, r1, r2⟩ := r
  rw [show w = [] from r2]
  obtain ⟨ns, e, s⟩ := s
  obtain ⟨p, rfl, hp⟩ := ints_ok h r1 e
  exact ⟨p, ns, rfl, hp, val_ok h ke (d := .int ns.sum) rfl s⟩
theorem bi_max (h : HM K mg H I F μ) (ke : KE K mg I F R Q) {ds : List D} (r : Reps K mg I ds vs) (s : opBi .max m ds μ R) : rMax K vs H Q ∨ rMaxT K vs H Q := by
  obtain ⟨x, rfl⟩ := op_one (by decide) s
  obtain ⟨v, w, rfl, r1, r2⟩ := r
  rw [show w = [] from r2]
  obtain ⟨ns, e, h0, s⟩ := s
  obtain ⟨p, rfl, hp⟩ := itints_ok h r1 e
  rcases hp with hp | hp
  · exact .inl ⟨p, ns, rfl, hp, h0, fun j h1 h2 => val_ok h ke (d := .int j) rfl (s j h1 h2)⟩
  · exact .inr ⟨p, ns, rfl, hp, h0, fun j h1 h2 => val_ok h ke (d := .int j) rfl (s j h1 h2)⟩
theorem bi_min (h : HM K mg H I F μ) (ke : KE K mg I F R Q) {ds : List D} (r : Reps K mg I ds vs) (s : opBi .min m ds μ R) : rMin K vs H Q ∨ rMinT K vs H Q := by
  obtain ⟨x, rfl⟩ := op_one (by decide) s
  obtain ⟨v, w, rfl, r1, r2⟩ := r
  rw [show w = [] from r2]
  obtain ⟨ns, e, h0, s⟩ := s
  obtain ⟨p, rfl, hp⟩ := itints_ok h r1 e
  rcases hp with hp | hp
  · exact .inl ⟨p, ns, rfl, hp, h0, fun j h1 h2 => val_ok h ke (d := .int j) rfl (s j h1 h2)⟩
  · exact .inr ⟨p, ns, rfl, hp, h0, fun j h1 h2 => val_ok h ke (d := .int j) rfl (s j h1 h2)⟩
theorem bi_max2 (h : HM K mg H I F μ) (ke : KE K mg I F R Q) {ds : List D} (r : Reps K mg I ds vs) (s : opBi .max2 m ds μ R) : ∃ i j, vs = [.int i, .int j] ∧ Q (.int (if j > i then j else i)) H := by
  obtain ⟨x, y, rfl⟩ := op_two (by decide) s
  obtain ⟨v, w, rfl, r1, r2⟩ := r
  obtain ⟨v2, w2, rfl, r3, r4⟩ := r2
  rw [show w2 = [] from r4]
  cases x with
  | int i =>
    cases y with
    | int j => cases r1; cases r3; exact ⟨i, j, rfl, val_ok h ke (d := .int _) rfl s⟩
    | _ => cases s
  | _ => cases s
theorem bi_min2 (h : HM K mg H I F μ) (ke : KE K mg I F R Q) {ds : List D} (r : Reps K mg I ds vs) (s : opBi .min2 m ds μ R) : ∃ i j, vs = [.int i, .int j] ∧ Q (.int (if j < i then j else i)) H := by
  obtain ⟨x, y, rfl⟩ := op_two (by decide) s
  obtain ⟨v, w, rfl, r1, r2⟩ := r
  obtain ⟨v2, w2, rfl, r3, r4⟩ := r2
  rw [show w2 = [] from r4]
  cases x with
  | int i =>
    cases y with
    | int j => cases r1; cases r3; exact ⟨i, j, rfl, val_ok h ke (d := .int _) rfl s⟩
    | _ => cases s
  | _ => cases s
theorem bi_sumL (h : HM K mg H I F μ) (ke : KE K mg I F R Q) {ds : List D} (r : Reps K mg I ds vs) (s : opBi .sumL m ds μ R) : rSumL K vs H Q := by
  obtain ⟨x, y, rfl⟩ := op_two (by decide) s
  obtain ⟨v, w, rfl, r1, r2⟩ := r
  obtain ⟨v2, w2, rfl, r3, r4⟩ := r2
  rw [show w2 = [] from r4]
  obtain ⟨xss, e1, rfl, rfl, hl, s⟩ := s
  obtain ⟨p, us, rfl, hp, q⟩ := ritems_ok h r1 e1
  obtain ⟨p2, us2, rfl, hp2, q2⟩ := id r3
  obtain ⟨ps, yss, rfl, h1, h2, h3⟩ := lsts_ok h q
  rw [show us2 = [] from q2] at hp2
  refine ⟨p, p2, ps, yss, rfl, hp, h.sub _ _ hp2, h1, ?_, fun z => ?_, fun z => ?_⟩
  · rw [h2.length]
    exact Nat.le_trans hl lim_le
  · have : xss = [] := List.eq_nil_of_length_eq_zero (by rw [← h3, z] <;> rfl)
    rw [this] at s
    exact val_ok h ke (d := .lst []) r3 s
  · exact mkL_ok (m := false) h ke h2 s
end
end PL
/-! PL8: special calls, methods, sources of walks, comprehensions. -/
namespace PL
open PySem PySem.Spec PyProof.Rows L2 PySem.W
section
variable {K : PySem.W.Frag} {mg : Str → Option Value} {H I F : Hp} {μ : Mu} {p : Addr} {o : HO}
/-- a new thing that nobody looks at -/
theorem HM.junk (h : HM K mg H I F μ) (hp : H p = none) : HM K mg (upd H p o) I F μ := by
  refine ⟨fun a u e => ?_, fun a u e => ?_, fun a n e => ?_, h.ftup⟩
  · rw [upd_ne (ne_of_none (h.sub _ _ e) hp)]; exact h.sub _ _ e
  · obtain ⟨q1, q2, q3⟩ := h.frm _ _ e
    rw [upd_ne (ne_of_none q1 hp)]
    exact ⟨q1, q2, q3⟩
  · obtain ⟨q1, u, q2, q3⟩ := h.muts _ _ e
    exact ⟨q1, u, by rw [upd_ne (ne_of_none q2 hp)]; exact q2, q3⟩
end
section
variable {X : Cx} {Φ : Md} {W : WX} {S : Sy} {k : Nat} {a b c es : IE} {e l r x y : Expr} {pos : Pos}
theorem dups_le : ∀ ns : List Int, ns.eraseDups.length ≤ ns.length
  | [] => by simp
  | n :: ns => by
    rw [List.eraseDups_cons, List.length_cons, List.length_cons]
    have h1 := dups_le (ns.filter fun b => !b == n)
    have h2 := List.length_filter_le (fun b => !b == n) ns
    omega
termination_by ns => ns.length
decreasing_by
  have h2 := List.length_filter_le (fun b => !b == n) ns
  simp only [List.length_cons]
  omega
theorem c_lenSet (G : Good Φ k S X) (hc : S.calm = true) {m : Bool} {p1 p2 p3 : Pos} (h1 : glB S "len" = true) (h2 : glB S "set" = true) (hn : notStar x = true) (ha : PA X [x] (tA X Φ es W)) :
    PE X (.Call (.Name "len" p1) [.Call (.Name "set" p2) [x] [] p3] [] pos) (tE X Φ (.bi .lenSet m es) W) := by
  have cal : X.calm = true := by rw [G.calm]; exact hc
  obtain ⟨g1, d1⟩ := gl_ok G h1
  obtain ⟨g2, d2⟩ := gl_ok G h2
  have pin : PE X (.Call (.Name "set" p2) [x] [] p3) (tCB (rSetI X.w X.K) (tA X Φ es W)) := pe_callTy (cr_setI cal) g2 (free_ok G (by decide +kernel)) boot_set ha (by decide) d2 (star_cons hn) (star_any rfl)
  refine PE.imp (pe_callB cr_lenSet g1 (free_ok G (by decide +kernel)) PySem.boot_len (pa_cons pin pa_nil) (by decide) d1 rfl rfl) fun σ H Q ⟨I, F, μ, ρ, R, E, hm, hs, s, ke, kx⟩ => ?_
  refine tA_mk hm hs s kx fun I1 H1 μ1 d v x1 m1 s1 kx1 r1 _ p1 => ?_
  cases d with
  | nil => exact False.elim p1
  | cons z t =>
    cases t with
    | nil =>
      obtain ⟨v1, w, rfl, r2, r3⟩ := r1
      rw [show w = [] from r3]
      obtain ⟨ns, e1, e2, p1⟩ := p1
      obtain ⟨q, rfl, hq⟩ := ints_ok m1 r2 e1
      refine ⟨q, ns, rfl, hq, e2, fun p hp => ?_⟩
      exact ⟨p, _, _, rfl, upd_same, val_ok (m1.junk hp) (ke.mono x1) (d := .int (ns.eraseDups.length : Nat)) rfl p1⟩
    | cons _ _ => exact False.elim p1
theorem c_sortedSet (G : Good Φ k S X) (hc : S.calm = true) {m : Bool} {p1 p2 p3 : Pos} (h1 : glB S "sorted" = true) (h2 : glB S "set" = true) (hn : notStar x = true) (ha : PA X [x] (tA X Φ es W)) :
    PE X (.Call (.Name "sorted" p1) [.Call (.Name "set" p2) [x] [] p3] [] pos) (tE X Φ (.bi .sortedSet m es) W) := by
  have cal : X.calm = true := by rw [G.calm]; exact hc
  obtain ⟨g1, d1⟩ := gl_ok G h1
  obtain ⟨g2, d2⟩ := gl_ok G h2
  have pin : PE X (.Call (.Name "set" p2) [x] [] p3) (tCB (rSetI X.w X.K) (tA X Φ es W)) := pe_callTy (cr_setI cal) g2 (free_ok G (by decide +kernel)) boot_set ha (by decide) d2 (star_cons hn) (star_any rfl)
  refine PE.imp (pe_callB (cr_sortedSet cal) g1 (free_ok G (by decide +kernel)) (by decide +kernel) (pa_cons pin pa_nil) (by decide) d1 rfl rfl) fun σ H Q ⟨I, F, μ, ρ, R, E, hm, hs, s, ke, kx⟩ => ?_
  refine tA_mk hm hs s kx fun I1 H1 μ1 d v x1 m1 s1 kx1 r1 _ p1 => ?_
  cases d with
  | nil => exact False.elim p1
  | cons z t =>
    cases t with
    | nil =>
      obtain ⟨v1, w, rfl, r2, r3⟩ := r1
      rw [show w = [] from r3]
      obtain ⟨ns, e1, e2, p1⟩ := p1
      obtain ⟨q, rfl, hq⟩ := ints_ok m1 r2 e1
      refine ⟨q, ns, rfl, hq, by omega, fun p hp => ?_⟩
      refine ⟨p, _, _, rfl, upd_same, ?_, fun ns' o h3 h4 h5 h6 => ?_⟩
      · exact Nat.lt_of_le_of_lt (dups_le ns) e2
      · exact mkL_ok (m1.junk hp) (ke.mono x1) Reps.of_ints (p1 ns' h3 (fun k => (h4 k).trans decide_eq_true_iff)) o h6
    | cons _ _ => exact False.elim p1
/-- list(range(..)) -/
theorem c_range1 (G : Good Φ k S X) (hc : S.calm = true) {m : Bool} {p1 p2 p3 : Pos} (h1 : glB S "list" = true) (h2 : glB S "range" = true) (hn : notStar x = true) (ha : PE X x (tE X Φ a W)) :
    PE X (.Call (.Name "list" p1) [.Call (.Name "range" p2) [x] [] p3] [] pos) (tE X Φ (.rng1 m a) W) := by
  have cal : X.calm = true := by rw [G.calm]; exact hc
  refine PE.imp (pe_listRg cal (gl_ok G h1).1 (free_ok G (by decide +kernel)) (prg_1 (gl_ok G h2).1 (free_ok G (by decide +kernel)) ha (star_cons hn)) rfl) fun σ H Q ⟨I, F, μ, ρ, R, E, hm, hs, s, ke, kx⟩ => ?_
  refine tE_mk hm hs s kx fun I1 H1 μ1 d v x1 m1 s1 kx1 r1 p1 => ?_
  cases d with
  | int j =>
    obtain ⟨q1, q2, p1⟩ := p1
    cases r1
    unfold lim at q1 q2
    refine ⟨j, rfl, ⟨by omega, by omega, by omega, by omega, by omega⟩, ?_⟩
    have e : rgV 0 j = (List.range j.toNat).map fun i => V.int (i : Nat) := by
      unfold rgV
      rw [Int.sub_zero]
      exact List.map_congr_left fun i _ => by rw [Int.zero_add]
    rw [e]
    refine mkL_ok m1 (ke.mono x1) ?_ p1
    have z : ∀ l : List Nat, Reps X.K X.mg I1 (l.map fun i => D.int (i : Nat)) (l.map fun i => V.int (i : Nat)) := fun l => by
      induction l with
      | nil => rfl
      | cons a t ih => exact .cons rfl ih
    exact z _
  | _ => exact False.elim p1
theorem c_range2 (G : Good Φ k S X) (hc : S.calm = true) {m : Bool} {p1 p2 p3 : Pos} (h1 : glB S "list" = true) (h2 : glB S "range" = true) (hn : notStar x = true) (hn2 : notStar y = true) (ha : PE X x (tE X Φ a W)) (hb : PE X y (tE X Φ b W)) :
    PE X (.Call (.Name "list" p1) [.Call (.Name "range" p2) [x, y] [] p3] [] pos) (tE X Φ (.rng2 m a b) W) := by
  have cal : X.calm = true := by rw [G.calm]; exact hc
  refine PE.imp (pe_listRg cal (gl_ok G h1).1 (free_ok G (by decide +kernel)) (prg_2 (gl_ok G h2).1 (free_ok G (by decide +kernel)) ha hb (star_cons hn) (star_cons hn2) (by rw [star_cons hn2]; rfl)) rfl) fun σ H Q ⟨I, F, μ, ρ, R, E, hm, hs, s, ke, kx⟩ => ?_
  refine tE_mk hm hs s kx fun I1 H1 μ1 d v x1 m1 s1 kx1 r1 p1 => ?_
  refine tE_mk m1 s1 p1 kx1 fun I2 H2 μ2 d2 v2 x2 m2 s2 kx2 r2 p2 => ?_
  cases d with
  | int i =>
    cases d2 with
    | int j =>
      obtain ⟨q1, q2, q3, q4, p2⟩ := p2
      cases r1
      cases r2
      unfold lim at q1 q2 q3 q4
      refine ⟨i, j, rfl, rfl, ⟨by omega, by omega, by omega, by omega, by omega⟩, ?_⟩
      refine mkL_ok m2 (ke.mono (x1.trans x2)) ?_ p2
      have z : ∀ l : List Nat, Reps X.K X.mg I2 (l.map fun k => D.int (i + (k : Nat))) (l.map fun k => V.int (i + (k : Nat))) := fun l => by
        induction l with
        | nil => rfl
        | cons a t ih => exact .cons rfl ih
      exact z _
    | _ => exact False.elim p2
  | _ => cases d2 <;> exact False.elim p2
theorem boot_ty (t : Ty) : bootBuiltins (tyStr t) = some (.type (tyName t)) ∧ tyStr t ∈ bNames ∧ tyStr t ≠ "__name__" := by
  cases t <;> exact ⟨by decide +kernel, by decide +kernel, by decide +kernel⟩
theorem c_inst (G : Good Φ k S X) {t : Ty} {p1 p2 : Pos} (h1 : glB S "isinstance" = true) (h2 : glB S (tyStr t) = true) (hn : notStar x = true) (ha : PE X x (tE X Φ a W)) :
    PE X (.Call (.Name "isinstance" p1) [x, .Name (tyStr t) p2] [] pos) (tE X Φ (.inst a t) W) := by
  obtain ⟨g1, d1⟩ := gl_ok G h1
  obtain ⟨g2, d2⟩ := gl_ok G h2
  obtain ⟨b1, b2, b3⟩ := boot_ty t
  have pt : PE X (.Name (tyStr t) p2) (L2.tC (.ty (tyName t))) := pe_bltn g2 (free_ok G b2) b1 rfl b3 d2
  refine PE.imp (pe_callB call_isi g1 (free_ok G (by decide +kernel)) (by decide +kernel) (pa_cons ha (pa_cons pt pa_nil) (star_cons hn)) (by decide) d1 (star_cons hn) rfl) fun σ H Q ⟨I, F, μ, ρ, R, E, hm, hs, s, ke, kx⟩ => ?_
  refine tE_mk hm hs s kx fun I1 H1 μ1 d v x1 m1 s1 kx1 r1 p1 => ?_
  exact ⟨v, _, _, _, _, rfl, .ty _, tyx_ok m1 r1 p1.1, kit_tys t d p1.1, val_ok m1 (ke.mono x1) (d := .bl (isTy t d)) rfl p1.2⟩

/-! ### methods -/
theorem recv_ok {n : Str} (h : plainRecv x = true) : attributeBase x n X.env (eval x X.env) = eval x X.env := by
  cases x <;> first | rfl | cases h
theorem ty_list {K : PySem.W.Frag} {mg : Str → Option Value} {H I F : Hp} {μ : Mu} {d : D} {v : V} (m : HM K mg H I F μ) (r : Rep K mg I d v) (h : (ritems μ d).isSome = true) : tyV K "list" v H := by
  obtain ⟨ds, e⟩ := Option.isSome_iff_exists.mp h
  obtain ⟨p, vs, rfl, hp, _⟩ := ritems_ok m r e
  exact .inl ⟨rfl, vs, hp⟩
theorem c_pop0 {ap : Pos} (hb : plainRecv x = true) (hl : (ap.endLine == pos.line) = true) (ha : PE X x (tE X Φ a W)) : PE X (.Call (.Attribute x "pop" ap) [] [] pos) (tE X Φ (.meth a .pop .nl) W) := by
  refine PE.imp (pe_bm0 PySem.F.plainAttrs_list PySem.F.slot_list_pop PySem.F.type_list_pop mt_pop ha (recv_ok hb) hl) fun σ H Q ⟨I, F, μ, ρ, R, E, hm, hs, s, ke, kx⟩ => ?_
  refine tE_mk hm hs s kx fun I1 H1 μ1 d v x1 m1 s1 kx1 r1 p1 => ?_
  exact ⟨ty_list m1 r1 p1.1, pop0_ok m1 (ke.mono x1) r1 p1.2⟩
theorem c_pop1 {ap : Pos} (hb : plainRecv x = true) (hl : (ap.endLine == pos.line) = true) (hn : notStar y = true) (ha : PE X x (tE X Φ a W)) (hy : PA X [y] (tA X Φ (.cs b .nl) W)) : PE X (.Call (.Attribute x "pop" ap) [y] [] pos) (tE X Φ (.meth a .pop (.cs b .nl)) W) := by
  refine PE.imp (pe_bm PySem.F.plainAttrs_list PySem.F.slot_list_pop PySem.F.type_list_pop mt_popAt ha hy (recv_ok hb) (by rw [star_cons hn]; rfl) hl (star_cons hn) rfl) fun σ H Q ⟨I, F, μ, ρ, R, E, hm, hs, s, ke, kx⟩ => ?_
  refine tE_mk hm hs s kx fun I1 H1 μ1 d v x1 m1 s1 kx1 r1 p1 => ?_
  refine ⟨ty_list m1 r1 p1.1, tA_mk m1 s1 p1.2 kx1 fun I2 H2 μ2 ds vs x2 m2 s2 kx2 r2 n2 p2 => ?_⟩
  obtain ⟨d2, rfl⟩ := List.length_eq_one_iff.mp n2
  obtain ⟨v2, w2, rfl, r3, r4⟩ := r2
  rw [show w2 = [] from r4]
  exact pop1_ok m2 (ke.mono (x1.trans x2)) (Rep.mono x2 _ _ r1) r3 p2
theorem c_app {ap : Pos} (hb : plainRecv x = true) (hl : (ap.endLine == pos.line) = true) (hn : notStar y = true) (ha : PE X x (tE X Φ a W)) (hy : PA X [y] (tA X Φ (.cs b .nl) W)) : PE X (.Call (.Attribute x "append" ap) [y] [] pos) (tE X Φ (.meth a .append (.cs b .nl)) W) := by
  refine PE.imp (pe_bm PySem.F.plainAttrs_list PySem.F.slot_list_append PySem.F.type_list_append mt_append ha hy (recv_ok hb) (by rw [star_cons hn]; rfl) hl (star_cons hn) rfl) fun σ H Q ⟨I, F, μ, ρ, R, E, hm, hs, s, ke, kx⟩ => ?_
  refine tE_mk hm hs s kx fun I1 H1 μ1 d v x1 m1 s1 kx1 r1 p1 => ?_
  refine ⟨ty_list m1 r1 p1.1, tA_mk m1 s1 p1.2 kx1 fun I2 H2 μ2 ds vs x2 m2 s2 kx2 r2 n2 p2 => ?_⟩
  obtain ⟨d2, rfl⟩ := List.length_eq_one_iff.mp n2
  obtain ⟨v2, w2, rfl, r3, r4⟩ := r2
  rw [show w2 = [] from r4]
  exact app_ok' m2 (ke.mono (x1.trans x2)) (Rep.mono x2 _ _ r1) r3 p2
theorem c_index {ap : Pos} (hb : plainRecv x = true) (hl : (ap.endLine == pos.line) = true) (hn : notStar y = true) (ha : PE X x (tE X Φ a W)) (hy : PA X [y] (tA X Φ (.cs b .nl) W)) : PE X (.Call (.Attribute x "index" ap) [y] [] pos) (tE X Φ (.meth a .index (.cs b .nl)) W) := by
  refine PE.imp (pe_bm PySem.F.plainAttrs_list PySem.F.slot_list_index PySem.F.type_list_index mt_index ha hy (recv_ok hb) (by rw [star_cons hn]; rfl) hl (star_cons hn) rfl) fun σ H Q ⟨I, F, μ, ρ, R, E, hm, hs, s, ke, kx⟩ => ?_
  refine tE_mk hm hs s kx fun I1 H1 μ1 d v x1 m1 s1 kx1 r1 p1 => ?_
  refine ⟨ty_list m1 r1 p1.1, tA_mk m1 s1 p1.2 kx1 fun I2 H2 μ2 ds vs x2 m2 s2 kx2 r2 n2 p2 => ?_⟩
  obtain ⟨d2, rfl⟩ := List.length_eq_one_iff.mp n2
  obtain ⟨v2, w2, rfl, r3, r4⟩ := r2
  rw [show w2 = [] from r4]
  exact index_ok m2 (ke.mono (x1.trans x2)) (Rep.mono x2 _ _ r1) r3 p2

/-! ### sources -/
def DW (K : PySem.W.Frag) (mg : Str → Option Value) (J : It) (ds : List D) (g : Mu → Prop) (I0 : Hp) : Prop := ∃ n G Y, L2.Walk J n G Y ∧ n = ds.length ∧ (∀ H I F μ, Ext I0 I → HM K mg H I F μ → g μ → G H) ∧
  ∀ i H I F μ x H', Ext I0 I → HM K mg H I F μ → g μ → i < n → Y i H x H' → ∃ I' d, ds[i]? = some d ∧ Ext I I' ∧ HM K mg H' I' F μ ∧ Rep K mg I' d x
def KI (K : PySem.W.Frag) (mg : Str → Option Value) (I F : Hp) (R : RI) (Q : It → Hp → Prop) : Prop := ∀ I' H' μ' J ds g, Ext I I' → HM K mg H' I' F μ' → DW K mg J ds g I' → R ds g μ' → Q J H'
theorem KI.mono {K : PySem.W.Frag} {mg : Str → Option Value} {I I' F : Hp} {R : RI} {Q : It → Hp → Prop} (k : KI K mg I F R Q) (x : Ext I I') : KI K mg I' F R Q := fun I2 H2 μ2 J ds g e => k I2 H2 μ2 J ds g (x.trans e)
def tI (X : Cx) (Φ : Md) (ie : IE) (W : WX) : TI := fun σ H Q => ∃ I F μ ρ R E, HM X.K X.mg H I F μ ∧ Slots X.K X.mg I ρ σ ∧ semI Φ ie ρ μ R E ∧ KI X.K X.mg I F R Q ∧ KX X.K X.mg I F E W σ
def iSeq (K : PySem.W.Frag) (tl : TE) : TI := fun σ H R => tl σ H fun x H1 => ∃ a, x = .ref a ∧ (((∃ xs, SqL K H1 a xs) ∧ R (Itl K a) H1) ∨ ((∃ xs, SqT K H1 a xs) ∧ R (Itt K a) H1))
theorem pi_seq {tg : Expr} {tl : TE} (hl : PE X l tl) : PI X tg l (iSeq X.K tl) := by
  refine ⟨fun pins s σ H R I h => thn (hl.run pins s σ H _ I h) fun v s1 ⟨x, H1, I1, r1, a, e, q⟩ => ?_⟩
  subst e
  cases r1
  have fp : ∀ b ∈ [s1.heap.objs.size], FpOk X pins H1 b := fun b hb => by
    rw [List.mem_singleton] at hb
    subst hb
    exact I1.fpOk (Nat.le_refl _) (I1.hok.fresh (Nat.le_refl _))
  have kp : ∀ (o : Obj) (b : Addr) (u : Obj), s1.heap.get? b = some u → (s1.heap.push o).get? b = some u := fun o b u e => Heap.get?_push_of_some _ e
  rcases q with ⟨⟨xs, hq⟩, q⟩ | ⟨⟨xs, hq⟩, q⟩
  · obtain ⟨its, rv, p, hz⟩ := I1.list hq
    exact wpAny_pyIter_list p.isList ⟨_, _, _, _, H1, rfl, I1.kept (t' := s1.toks) (kp _), turn_list a _, ⟨_, Heap.get?_push_size _ rfl, rfl, rfl⟩, fp, q⟩
  · obtain ⟨its, rv, p, hz⟩ := I1.tuple hq
    exact wpAny_pyIter_tuple (show s1.heap.IsTuple a its.toArray from p) ⟨_, _, _, _, H1, rfl, I1.kept (t' := s1.toks) (kp _), turn_tuple a _, ⟨_, Heap.get?_push_size _ rfl, rfl, rfl⟩, fp, q⟩
/-- the list at p holds ds -/
def HoldL (K : PySem.W.Frag) (mg : Str → Option Value) (p : Addr) (ds : List D) (H I : Hp) : Prop := ∃ vs, SqL K H p vs ∧ Reps K mg I ds vs
def HoldT (K : PySem.W.Frag) (mg : Str → Option Value) (p : Addr) (ds : List D) (H I : Hp) : Prop := ∃ vs, SqT K H p vs ∧ Reps K mg I ds vs
theorem walk_listG {K : PySem.W.Frag} {a : Addr} {n : Nat} : L2.Walk (Itl K a) n (fun H => ∃ xs, SqL K H a xs ∧ xs.length = n) (fun i H x H' => H' = H ∧ ∀ xs, SqL K H a xs → xs[i]? = some x) :=
  ⟨fun i H hi ⟨xs, q, e⟩ => ⟨xs, xs[i], q, by simp [hi, e]⟩, fun H ⟨xs, q, e⟩ => ⟨xs, q, by omega⟩, fun _ _ _ _ _ _ y => y⟩
theorem walk_tupG {K : PySem.W.Frag} {a : Addr} {n : Nat} : L2.Walk (Itt K a) n (fun H => ∃ xs, SqT K H a xs ∧ xs.length = n) (fun i H x H' => H' = H ∧ ∀ xs, SqT K H a xs → xs[i]? = some x) :=
  ⟨fun i H hi ⟨xs, q, e⟩ => ⟨xs, xs[i], q, by simp [hi, e]⟩, fun H ⟨xs, q, e⟩ => ⟨xs, q, by omega⟩, fun _ _ _ _ _ _ y => y⟩
theorem walk_enumG {K : PySem.W.Frag} {a : Addr} {n : Nat} : L2.Walk (Ite K a) n (fun H => ∃ xs, SqL K H a xs ∧ xs.length = n) (fun i H v H' => ∃ T x, v = .ref T ∧ H T = none ∧ H' = upd H T (.tup [.int (i : Nat), x]) ∧ ∀ xs, SqL K H a xs → xs[i]? = some x) :=
  ⟨fun i H hi ⟨xs, q, e⟩ => ⟨xs, xs[i], q, by simp [hi, e]⟩, fun H ⟨xs, q, e⟩ => ⟨xs, q, by omega⟩, fun _ _ _ _ _ _ y => y⟩
theorem walk_enumTG {K : PySem.W.Frag} {a : Addr} {n : Nat} : L2.Walk (IteT K a) n (fun H => ∃ xs, SqT K H a xs ∧ xs.length = n) (fun i H v H' => ∃ T x, v = .ref T ∧ H T = none ∧ H' = upd H T (.tup [.int (i : Nat), x]) ∧ ∀ xs, SqT K H a xs → xs[i]? = some x) :=
  ⟨fun i H hi ⟨xs, q, e⟩ => ⟨xs, xs[i], q, by simp [hi, e]⟩, fun H ⟨xs, q, e⟩ => ⟨xs, q, by omega⟩, fun _ _ _ _ _ _ y => y⟩
theorem dw_l {K : PySem.W.Frag} {mg : Str → Option Value} {I0 : Hp} {p : Addr} {ds : List D} {g : Mu → Prop} (hp : ∀ H I F μ, Ext I0 I → HM K mg H I F μ → g μ → HoldL K mg p ds H I) : DW K mg (Itl K p) ds g I0 :=
  ⟨ds.length, _, _, walk_listG, rfl, fun H I F μ x m gm => let ⟨xs, h1, h2⟩ := hp H I F μ x m gm; ⟨xs, h1, h2.length⟩, fun i H I F μ x H' x0 m gm hi hY => by
    obtain ⟨rfl, e⟩ := hY
    obtain ⟨xs, h1, h2⟩ := hp _ _ _ _ x0 m gm
    obtain ⟨d, e1, rd⟩ := h2.get (e xs h1)
    exact ⟨I, d, e1, Ext.refl I, m, rd⟩⟩
theorem dw_t {K : PySem.W.Frag} {mg : Str → Option Value} {I0 : Hp} {p : Addr} {ds : List D} {g : Mu → Prop} (hp : ∀ H I F μ, Ext I0 I → HM K mg H I F μ → g μ → HoldT K mg p ds H I) : DW K mg (Itt K p) ds g I0 :=
  ⟨ds.length, _, _, walk_tupG, rfl, fun H I F μ x m gm => let ⟨xs, h1, h2⟩ := hp H I F μ x m gm; ⟨xs, h1, h2.length⟩, fun i H I F μ x H' x0 m gm hi hY => by
    obtain ⟨rfl, e⟩ := hY
    obtain ⟨xs, h1, h2⟩ := hp _ _ _ _ x0 m gm
    obtain ⟨d, e1, rd⟩ := h2.get (e xs h1)
    exact ⟨I, d, e1, Ext.refl I, m, rd⟩⟩
theorem kv_key (k : Key) {K : PySem.W.Frag} {mg : Str → Option Value} {I : Hp} : Rep K mg I (keyD k) (kV k) := by
  cases k <;> rfl
theorem RepK.at : ∀ {K : PySem.W.Frag} {mg : Str → Option Value} {I : Hp} {ks : List (Key × D)} {ws : List (Key × V)} {i : Nat} {k : Key} {v : V}, RepK K mg I ks ws → ws[i]? = some (k, v) → ∃ d, ks[i]? = some (k, d) ∧ Rep K mg I d v
  | _, _, _, [], _, i, _, _, r, e => by rw [show _ = [] from r] at e; simp at e
  | _, _, _, (j, d) :: ks, _, 0, k, v, r, e => by
    obtain ⟨u, w, rfl, r1, r2⟩ := r
    simp at e
    obtain ⟨rfl, rfl⟩ := e
    exact ⟨d, rfl, r1⟩
  | _, _, _, (j, d) :: ks, _, i + 1, k, v, r, e => by
    obtain ⟨u, w, rfl, r1, r2⟩ := r
    simp at e
    obtain ⟨x, h1, h2⟩ := RepK.at r2 e
    exact ⟨x, by simpa using h1, h2⟩
theorem dw_keys {K : PySem.W.Frag} {mg : Str → Option Value} {I0 : Hp} {d : Addr} {o : Obj} {ks : List (Key × D)} {ws : List (Key × V)} {g : Mu → Prop} (hp : I0 d = some (.frz o (.dK ws))) (r : RepK K mg I0 ks ws) : DW K mg (Itk d o ws) (ks.map fun p => keyD p.1) g I0 :=
  ⟨ws.length, _, _, walk_keys, by rw [List.length_map, r.length], fun H I F μ x m gm => m.sub _ _ (x.get hp), fun i H I F μ x H' x0 m gm hi hY => by
    obtain ⟨rfl, k, v, e, rfl⟩ := hY
    obtain ⟨z, e1, _⟩ := r.at e
    exact ⟨I, keyD k, by rw [List.getElem?_map, e1] <;> rfl, Ext.refl I, m, kv_key k⟩⟩
theorem dw_str {K : PySem.W.Frag} {mg : Str → Option Value} {I0 : Hp} {z : Str} {g : Mu → Prop} : DW K mg (Its z) (z.cps.toList.map fun c => D.str ⟨#[c]⟩) g I0 :=
  ⟨z.cps.size, _, _, walk_str, by rw [List.length_map, Array.length_toList], fun _ _ _ _ _ _ _ => trivial, fun i H I F μ x H' x0 m gm hi hY => by
    obtain ⟨rfl, c, e, rfl⟩ := hY
    exact ⟨I, D.str ⟨#[c]⟩, by rw [List.getElem?_map, Array.getElem?_toList, e] <;> rfl, Ext.refl I, m, rfl⟩⟩
/-- what a walked thing is -/
theorem src_cases {K : PySem.W.Frag} {mg : Str → Option Value} {H I F : Hp} {μ : Mu} {d : D} {v : V} {R : RI} (m : HM K mg H I F μ) (r : Rep K mg I d v) (s : srcSeq d μ R) :
    ∃ p ds g, v = .ref p ∧ R ds g μ ∧ ((HoldL K mg p ds H I ∧ ∀ H' I' F' μ', Ext I I' → HM K mg H' I' F' μ' → g μ' → HoldL K mg p ds H' I') ∨ (HoldT K mg p ds H I ∧ ∀ H' I' F' μ', Ext I I' → HM K mg H' I' F' μ' → g μ' → HoldT K mg p ds H' I')) := by
  cases d with
  | lst ds =>
    obtain ⟨p, vs, rfl, hp, q⟩ := r
    exact ⟨p, ds, _, rfl, s, .inl ⟨⟨vs, SqL.of (m.sub _ _ hp), q⟩, fun H' I' F' μ' x m' _ => ⟨vs, SqL.of (m'.sub _ _ (x.get hp)), q.mono x⟩⟩⟩
  | tup ds =>
    obtain ⟨p, vs, rfl, hp, q⟩ := r
    exact ⟨p, ds, _, rfl, s, .inr ⟨⟨vs, SqT.of (m.sub _ _ hp), q⟩, fun H' I' F' μ' x m' _ => ⟨vs, SqT.of (m'.sub _ _ (x.get hp)), q.mono x⟩⟩⟩
  | rd ds =>
    obtain ⟨p, vs, rfl, hp, q⟩ := r
    exact ⟨p, ds, _, rfl, s, .inl ⟨⟨vs, m.sq hp, q⟩, fun H' I' F' μ' x m' _ => ⟨vs, m'.sq (x.sq hp), q.mono x⟩⟩⟩
  | ref a =>
    obtain ⟨ds, e, s⟩ := s
    cases r
    have hold : ∀ {H' I' F' : Hp} {μ' : Mu}, HM K mg H' I' F' μ' → μ' a = some (.lst ds) → HoldL K mg a ds H' I' := fun m' e' => by
      obtain ⟨_, o, ho, vs, rfl, q⟩ := m'.muts _ _ e'
      exact ⟨vs, SqL.of ho, q⟩
    exact ⟨a, ds, _, rfl, s, .inl ⟨hold m e, fun H' I' F' μ' x m' e' => hold m' e'⟩⟩
  | _ => cases s
theorem src_ok {K : PySem.W.Frag} {mg : Str → Option Value} {H I F : Hp} {μ : Mu} {d : D} {v : V} {R : RI} {Q : It → Hp → Prop} (m : HM K mg H I F μ) (ki : KI K mg I F R Q) (r : Rep K mg I d v) (s : srcOf d μ R) :
    (∃ p, v = .ref p ∧ (((∃ xs, SqL K H p xs) ∧ Q (Itl K p) H) ∨ ((∃ xs, SqT K H p xs) ∧ Q (Itt K p) H))) ∨
    (∃ d kvs, v = .ref d ∧ ((H d = some (.dK kvs) ∧ ∀ o, Q (Itk d o kvs) (upd H d (.frz o (.dK kvs)))) ∨ ∃ o, H d = some (.frz o (.dK kvs)) ∧ Q (Itk d o kvs) H)) ∨ (∃ z, v = .str z ∧ Q (Its z) H) := by
  have go : srcSeq d μ R → ∃ p, v = .ref p ∧ (((∃ xs, SqL K H p xs) ∧ Q (Itl K p) H) ∨ ((∃ xs, SqT K H p xs) ∧ Q (Itt K p) H)) := fun s => by
    obtain ⟨p, ds, g, rfl, s, h⟩ := src_cases m r s
    rcases h with ⟨⟨vs, h1, _⟩, h2⟩ | ⟨⟨vs, h1, _⟩, h2⟩
    · exact ⟨p, rfl, .inl ⟨⟨vs, h1⟩, ki I H μ _ ds g (Ext.refl I) m (dw_l h2) s⟩⟩
    · exact ⟨p, rfl, .inr ⟨⟨vs, h1⟩, ki I H μ _ ds g (Ext.refl I) m (dw_t h2) s⟩⟩
  cases d with
  | dK ks =>
    obtain ⟨p, ws, rfl, hp, q⟩ := r
    refine .inr (.inl ⟨p, ws, rfl, ?_⟩)
    rcases hp with hp | ⟨ob, hp⟩
    · refine .inl ⟨m.sub _ _ hp, fun o => ?_⟩
      obtain ⟨m2, x2⟩ := m.lock (ob := o) hp True.intro
      exact ki _ _ μ _ _ _ x2 m2 (dw_keys (o := o) upd_same (RepK.mono x2 _ _ q)) s
    · exact .inr ⟨ob, m.sub _ _ hp, ki _ _ μ _ _ _ (Ext.refl I) m (dw_keys (o := ob) hp q) s⟩
  | str z => exact .inr (.inr ⟨z, r, ki I H μ _ _ _ (Ext.refl I) m dw_str s⟩)
  | lst _ => exact .inl (go s)
  | tup _ => exact .inl (go s)
  | rd _ => exact .inl (go s)
  | ref _ => exact .inl (go s)
  | _ => cases s
/-- any expression that gives a list or a tuple -/
theorem c_src {tg : Expr} {it : IE} (ha : PE X l (tE X Φ it W)) (h : ∀ ρ μ R E, semI Φ it ρ μ R E → semE Φ it ρ μ (fun x μ1 => srcOf x μ1 R) E) : PI X tg l (tI X Φ it W) := by
  refine PI.imp (pi_any ha) fun σ H Q ⟨I, F, μ, ρ, R, E, hm, hs, s, ki, kx⟩ => ?_
  refine tE_mk hm hs (h _ _ _ _ s) kx fun I1 H1 μ1 d v x1 m1 s1 kx1 r1 p1 => ?_
  exact src_ok m1 (ki.mono x1) r1 p1
theorem dw_range {K : PySem.W.Frag} {mg : Str → Option Value} {I0 : Hp} {lo : Int} {n : Nat} {ds : List D} (hd : ds = (List.range n).map fun i => D.int (lo + (i : Nat))) : DW K mg (Itr lo n) ds (fun _ => True) I0 :=
  ⟨_, _, _, walk_range (lo := lo) (n := n), by rw [hd, List.length_map, List.length_range], fun _ _ _ _ _ _ _ => trivial, fun i H I F μ x H' x0 m gm hi hY => by
    obtain ⟨rfl, rfl⟩ := hY
    refine ⟨I, D.int (lo + (i : Nat)), ?_, Ext.refl I, m, rfl⟩
    rw [hd, List.getElem?_map, List.getElem?_range hi] <;> rfl⟩
theorem c_rng1 {tg : Expr} (G : Good Φ k S X) {p1 : Pos} (h2 : glB S "range" = true) (hn : notStar x = true) (ha : PE X x (tE X Φ a W)) : PI X tg (.Call (.Name "range" p1) [x] [] pos) (tI X Φ (.range1 a) W) := by
  refine PI.imp (pi_range1 (gl_ok G h2).1 (free_ok G (by decide +kernel)) (pa_cons ha pa_nil (star_cons hn)) (star_cons hn)) fun σ H Q ⟨I, F, μ, ρ, R, E, hm, hs, s, ki, kx⟩ => ?_
  refine tE_mk hm hs s kx fun I1 H1 μ1 d v x1 m1 s1 kx1 r1 p1 => ?_
  obtain ⟨j, rfl, q1, q2, p1⟩ := p1
  cases r1
  unfold lim at q1 q2
  refine ⟨j, rfl, by omega, by omega, ki I1 H1 μ1 _ _ _ x1 m1 (dw_range ?_) p1⟩
  exact List.map_congr_left fun i _ => by rw [Int.zero_add]
theorem c_rng2 {tg : Expr} (G : Good Φ k S X) {p1 : Pos} (h2 : glB S "range" = true) (hn : notStar x = true) (hn2 : notStar y = true) (ha : PE X x (tE X Φ a W)) (hb : PE X y (tE X Φ b W)) : PI X tg (.Call (.Name "range" p1) [x, y] [] pos) (tI X Φ (.range2 a b) W) := by
  refine PI.imp (pi_range2 (gl_ok G h2).1 (free_ok G (by decide +kernel)) (pa_cons ha (pa_cons hb pa_nil (star_cons hn2)) (star_cons hn)) (by rw [star_cons hn, star_cons hn2]; rfl) (star_cons hn2)) fun σ H Q ⟨I, F, μ, ρ, R, E, hm, hs, s, ki, kx⟩ => ?_
  refine tE_mk hm hs s kx fun I1 H1 μ1 d v x1 m1 s1 kx1 r1 p1 => ?_
  refine tE_mk m1 s1 p1 kx1 fun I2 H2 μ2 d2 v2 x2 m2 s2 kx2 r2 p2 => ?_
  obtain ⟨i, j, rfl, rfl, q1, q2, q3, q4, p2⟩ := p2
  cases r1
  cases r2
  unfold lim at q1 q2 q3 q4
  exact ⟨i, j, rfl, ⟨by omega, by omega, by omega, by omega⟩, ki I2 H2 μ2 _ _ _ (x1.trans x2) m2 (dw_range rfl) p2⟩
theorem dw_enumL {K : PySem.W.Frag} {mg : Str → Option Value} {I0 : Hp} {p : Addr} {ds : List D} {g : Mu → Prop} (hp : ∀ H I F μ, Ext I0 I → HM K mg H I F μ → g μ → HoldL K mg p ds H I) : DW K mg (Ite K p) (ds.zipIdx.map fun p => D.tup [.int (p.2 : Nat), p.1]) g I0 :=
  ⟨ds.length, _, _, walk_enumG, by rw [List.length_map, List.length_zipIdx], fun H I F μ x m gm => let ⟨xs, h1, h2⟩ := hp H I F μ x m gm; ⟨xs, h1, h2.length⟩, fun i H I F μ x H' x0 m gm hi hY => by
    obtain ⟨T, y', rfl, hT, rfl, e2⟩ := hY
    obtain ⟨xs, h1, h2⟩ := hp _ _ _ _ x0 m gm
    obtain ⟨d, e3, rd⟩ := h2.get (e2 xs h1)
    obtain ⟨m2, x2⟩ := m.new (o := .tup [V.int (i : Nat), y']) hT
    refine ⟨_, D.tup [.int (i : Nat), d], ?_, x2, m2, T, _, rfl, upd_same, .cons rfl (.cons (Rep.mono x2 _ _ rd) .nil)⟩
    rw [List.getElem?_map, List.getElem?_zipIdx, e3]
    show some (D.tup [.int ((0 + i : Nat) : Int), d]) = _
    rw [Nat.zero_add]⟩
theorem dw_enumT {K : PySem.W.Frag} {mg : Str → Option Value} {I0 : Hp} {p : Addr} {ds : List D} {g : Mu → Prop} (hp : ∀ H I F μ, Ext I0 I → HM K mg H I F μ → g μ → HoldT K mg p ds H I) : DW K mg (IteT K p) (ds.zipIdx.map fun p => D.tup [.int (p.2 : Nat), p.1]) g I0 :=
  ⟨ds.length, _, _, walk_enumTG, by rw [List.length_map, List.length_zipIdx], fun H I F μ x m gm => let ⟨xs, h1, h2⟩ := hp H I F μ x m gm; ⟨xs, h1, h2.length⟩, fun i H I F μ x H' x0 m gm hi hY => by
    obtain ⟨T, y', rfl, hT, rfl, e2⟩ := hY
    obtain ⟨xs, h1, h2⟩ := hp _ _ _ _ x0 m gm
    obtain ⟨d, e3, rd⟩ := h2.get (e2 xs h1)
    obtain ⟨m2, x2⟩ := m.new (o := .tup [V.int (i : Nat), y']) hT
    refine ⟨_, D.tup [.int (i : Nat), d], ?_, x2, m2, T, _, rfl, upd_same, .cons rfl (.cons (Rep.mono x2 _ _ rd) .nil)⟩
    rw [List.getElem?_map, List.getElem?_zipIdx, e3]
    show some (D.tup [.int ((0 + i : Nat) : Int), d]) = _
    rw [Nat.zero_add]⟩
theorem c_enum {es' : List Expr} {j : Nat} {tp : Pos} (G : Good Φ k S X) {p1 : Pos} (h2 : glB S "enumerate" = true) (hn : notStar x = true) (ha : PE X x (tE X Φ a W)) : PI X (.Tuple es' j tp) (.Call (.Name "enumerate" p1) [x] [] pos) (tI X Φ (.enum a) W) := by
  refine PI.imp (pi_enumA (gl_ok G h2).1 (free_ok G (by decide +kernel)) (pa_cons ha pa_nil (star_cons hn)) (star_cons hn)) fun σ H Q ⟨I, F, μ, ρ, R, E, hm, hs, s, ki, kx⟩ => ?_
  refine tE_mk hm hs s kx fun I1 H1 μ1 d v x1 m1 s1 kx1 r1 p1 => ?_
  obtain ⟨p, ds, g, rfl, p1, h⟩ := src_cases m1 r1 p1
  rcases h with ⟨⟨vs, h1, _⟩, h2⟩ | ⟨⟨vs, h1, _⟩, h2⟩
  · exact ⟨p, vs, rfl, .inl ⟨h1, ki I1 H1 μ1 _ _ g x1 m1 (dw_enumL h2) p1⟩⟩
  · exact ⟨p, vs, rfl, .inr ⟨h1, ki I1 H1 μ1 _ _ g x1 m1 (dw_enumT h2) p1⟩⟩
theorem walk_zipLG {K : PySem.W.Frag} {a b : Addr} {n m : Nat} : L2.Walk (Itz K a b) (min n m) (fun H => (∃ xs, SqL K H a xs ∧ xs.length = n) ∧ ∃ ys, SqL K H b ys ∧ ys.length = m) (fun i H v H' => ∃ T x y, v = .ref T ∧ H T = none ∧ H' = upd H T (.tup [x, y]) ∧ (∀ xs, SqL K H a xs → xs[i]? = some x) ∧ ∀ ys, SqL K H b ys → ys[i]? = some y) :=
  ⟨fun i H hi ⟨⟨xs, q, e⟩, ys, q2, e2⟩ => ⟨xs, ys, xs[i]'(by omega), ys[i]'(by omega), q, q2, by simp, by simp⟩, fun H ⟨⟨xs, q, e⟩, ys, q2, e2⟩ => ⟨xs, ys, q, q2, by omega⟩, fun _ _ _ _ _ _ y => y⟩
theorem walk_zipTG {K : PySem.W.Frag} {a b : Addr} {n m : Nat} : L2.Walk (RZ.ItzT K a b) (min n m) (fun H => (∃ xs, SqT K H a xs ∧ xs.length = n) ∧ ∃ ys, SqT K H b ys ∧ ys.length = m) (fun i H v H' => ∃ T x y, v = .ref T ∧ H T = none ∧ H' = upd H T (.tup [x, y]) ∧ (∀ xs, SqT K H a xs → xs[i]? = some x) ∧ ∀ ys, SqT K H b ys → ys[i]? = some y) :=
  ⟨fun i H hi ⟨⟨xs, q, e⟩, ys, q2, e2⟩ => ⟨xs, ys, xs[i]'(by omega), ys[i]'(by omega), q, q2, by simp, by simp⟩, fun H ⟨⟨xs, q, e⟩, ys, q2, e2⟩ => ⟨xs, ys, q, q2, by omega⟩, fun _ _ _ _ _ _ y => y⟩
theorem zip_at {as bs : List D} {i : Nat} {x y : D} (h1 : as[i]? = some x) (h2 : bs[i]? = some y) : ((as.zip bs).map fun p => D.tup [p.1, p.2])[i]? = some (D.tup [x, y]) := by
  have e : (as.zip bs)[i]? = some (x, y) := List.getElem?_zip_eq_some.mpr ⟨h1, h2⟩
  rw [List.getElem?_map, e] <;> rfl
theorem dw_zipL {K : PySem.W.Frag} {mg : Str → Option Value} {I0 : Hp} {p q : Addr} {as bs : List D} {vs ws : List V} {g : Mu → Prop} (hp : I0 p = some (.lst vs)) (hq : I0 q = some (.lst ws)) (r : Reps K mg I0 as vs) (r2 : Reps K mg I0 bs ws) : DW K mg (Itz K p q) ((as.zip bs).map fun p => D.tup [p.1, p.2]) g I0 :=
  ⟨_, _, _, walk_zipLG, by rw [List.length_map, List.length_zip], fun H I F μ x m gm => ⟨⟨vs, SqL.of (m.sub _ _ (x.get hp)), r.length⟩, ws, SqL.of (m.sub _ _ (x.get hq)), r2.length⟩, fun i H I F μ x H' x0 m gm hi hY => by
    obtain ⟨T, y1, y2, rfl, hT, rfl, e1, e2⟩ := hY
    obtain ⟨d1, f1, rd1⟩ := (r.mono x0).get (e1 vs (SqL.of (m.sub _ _ (x0.get hp))))
    obtain ⟨d2, f2, rd2⟩ := (r2.mono x0).get (e2 ws (SqL.of (m.sub _ _ (x0.get hq))))
    obtain ⟨m2, x2⟩ := m.new (o := .tup [y1, y2]) hT
    exact ⟨_, D.tup [d1, d2], zip_at f1 f2, x2, m2, T, _, rfl, upd_same, .cons (Rep.mono x2 _ _ rd1) (.cons (Rep.mono x2 _ _ rd2) .nil)⟩⟩
theorem dw_zipT {K : PySem.W.Frag} {mg : Str → Option Value} {I0 : Hp} {p q : Addr} {as bs : List D} {vs ws : List V} {g : Mu → Prop} (hp : I0 p = some (.tup vs)) (hq : I0 q = some (.tup ws)) (r : Reps K mg I0 as vs) (r2 : Reps K mg I0 bs ws) : DW K mg (RZ.ItzT K p q) ((as.zip bs).map fun p => D.tup [p.1, p.2]) g I0 :=
  ⟨_, _, _, walk_zipTG, by rw [List.length_map, List.length_zip], fun H I F μ x m gm => ⟨⟨vs, SqT.of (m.sub _ _ (x.get hp)), r.length⟩, ws, SqT.of (m.sub _ _ (x.get hq)), r2.length⟩, fun i H I F μ x H' x0 m gm hi hY => by
    obtain ⟨T, y1, y2, rfl, hT, rfl, e1, e2⟩ := hY
    obtain ⟨d1, f1, rd1⟩ := (r.mono x0).get (e1 vs (SqT.of (m.sub _ _ (x0.get hp))))
    obtain ⟨d2, f2, rd2⟩ := (r2.mono x0).get (e2 ws (SqT.of (m.sub _ _ (x0.get hq))))
    obtain ⟨m2, x2⟩ := m.new (o := .tup [y1, y2]) hT
    exact ⟨_, D.tup [d1, d2], zip_at f1 f2, x2, m2, T, _, rfl, upd_same, .cons (Rep.mono x2 _ _ rd1) (.cons (Rep.mono x2 _ _ rd2) .nil)⟩⟩
theorem c_zip {es' : List Expr} {j : Nat} {tp : Pos} (G : Good Φ k S X) {p1 : Pos} (h2 : glB S "zip" = true) (hn : notStar x = true) (hn2 : notStar y = true) (ha : PE X x (tE X Φ a W)) (hb : PE X y (tE X Φ b W)) : PI X (.Tuple es' j tp) (.Call (.Name "zip" p1) [x, y] [] pos) (tI X Φ (.zip a b) W) := by
  refine PI.imp (RZ.pi_zipA (gl_ok G h2).1 (free_ok G (by decide +kernel)) (pa_cons ha (pa_cons hb pa_nil (star_cons hn2)) (star_cons hn)) (by rw [star_cons hn, star_cons hn2] <;> rfl) (by rw [star_cons hn2] <;> rfl)) fun σ H Q ⟨I, F, μ, ρ, R, E, hm, hs, s, ki, kx⟩ => ?_
  refine tE_mk hm hs s kx fun I1 H1 μ1 d v x1 m1 s1 kx1 r1 p1 => ?_
  refine tE_mk m1 s1 p1 kx1 fun I2 H2 μ2 d2 v2 x2 m2 s2 kx2 r2 p2 => ?_
  have r1 := Rep.mono x2 _ _ r1
  have ki := ki.mono (x1.trans x2)
  unfold zipOf at p2
  split at p2
  · obtain ⟨p, vs, rfl, hp, q⟩ := r1
    obtain ⟨p', vs', rfl, hp', q'⟩ := r2
    exact ⟨p, p', vs, vs', rfl, .inl ⟨SqL.of (m2.sub _ _ hp), SqL.of (m2.sub _ _ hp'), ki I2 H2 μ2 _ _ _ (Ext.refl _) m2 (dw_zipL hp hp' q q') p2⟩⟩
  · obtain ⟨p, vs, rfl, hp, q⟩ := r1
    obtain ⟨p', vs', rfl, hp', q'⟩ := r2
    exact ⟨p, p', vs, vs', rfl, .inr ⟨SqT.of (m2.sub _ _ hp), SqT.of (m2.sub _ _ hp'), ki I2 H2 μ2 _ _ _ (Ext.refl _) m2 (dw_zipT hp hp' q q') p2⟩⟩
  · exact p2.elim
/-! ### texts -/
theorem srecv_ok {n : Str} (h : strRecv x = true) : attributeBase x n X.env (eval x X.env) = eval x X.env := by
  cases x <;> first | rfl | cases h
theorem c_split {m : Bool} {ap : Pos} (hb : strRecv x = true) (hl : (ap.endLine == pos.line) = true) (hn : notStar y = true) (ha : PE X x (tE X Φ a W)) (hy : PE X y (tE X Φ b W)) : PE X (.Call (.Attribute x "split" ap) [y] [] pos) (tE X Φ (.split m a b) W) := by
  refine PE.imp (pe_split ha hy (by rw [star_cons hn] <;> rfl) (srecv_ok hb) hl) fun σ H Q ⟨I, F, μ, ρ, R, E, hm, hs, s, ke, kx⟩ => ?_
  refine tE_mk hm hs s kx fun I1 H1 μ1 d v x1 m1 s1 kx1 r1 p1 => ?_
  obtain ⟨⟨z, rfl⟩, p1⟩ := p1
  refine ⟨⟨z, r1⟩, tE_mk m1 s1 p1 kx1 fun I2 H2 μ2 d2 v2 x2 m2 s2 kx2 r2 p2 => ?_⟩
  exact split_ok m2 (ke.mono (x1.trans x2)) (Rep.mono x2 _ _ r1) r2 p2
theorem c_join {ap : Pos} (hb : strRecv x = true) (hl : (ap.endLine == pos.line) = true) (hn : notStar y = true) (ha : PE X x (tE X Φ a W)) (hy : PE X y (tE X Φ b W)) : PE X (.Call (.Attribute x "join" ap) [y] [] pos) (tE X Φ (.join a b) W) := by
  refine PE.imp (pe_join ha hy (by rw [star_cons hn] <;> rfl) (srecv_ok hb) hl) fun σ H Q ⟨I, F, μ, ρ, R, E, hm, hs, s, ke, kx⟩ => ?_
  refine tE_mk hm hs s kx fun I1 H1 μ1 d v x1 m1 s1 kx1 r1 p1 => ?_
  obtain ⟨⟨z, rfl⟩, p1⟩ := p1
  refine ⟨⟨z, r1⟩, tE_mk m1 s1 p1 kx1 fun I2 H2 μ2 d2 v2 x2 m2 s2 kx2 r2 p2 => ?_⟩
  exact join_ok m2 (ke.mono (x1.trans x2)) (Rep.mono x2 _ _ r1) r2 p2
end
end PL
/-! PL9: targets, comprehensions. -/
namespace PL
open PySem PySem.Spec PyProof.Rows L2 PySem.W

/-! ### slots forgotten -/
theorem wipe_get (σ : L2.St) (j : Nat) : ∀ vs : List Nat, (L2.wipe σ vs)[j]? = if j ∈ vs then (σ[j]?).map (fun _ => none) else σ[j]?
  | [] => by simp [L2.wipe]
  | v :: vs => by
    unfold L2.wipe
    have ih := wipe_get σ j vs
    by_cases e : v = j
    · subst e
      rw [if_pos List.mem_cons_self, List.getElem?_set]
      simp only [if_true]
      rw [L2.wipe_length]
      by_cases h : v < σ.length
      · rw [if_pos h, List.getElem?_eq_getElem h] <;> rfl
      · rw [if_neg h, List.getElem?_eq_none (by omega)] <;> rfl
    · rw [List.getElem?_set_ne e, ih]
      by_cases h : j ∈ vs
      · rw [if_pos h, if_pos (List.mem_cons_of_mem _ h)]
      · rw [if_neg h, if_neg (by simp only [List.mem_cons, not_or]; exact ⟨fun z => e z.symm, h⟩)]
theorem wipe_set {σ : L2.St} {i : Nat} {x : Option V} {vs : List Nat} (h : i ∈ vs) : L2.wipe (σ.set i x) vs = L2.wipe σ vs := by
  apply List.ext_getElem?
  intro j
  rw [wipe_get, wipe_get]
  by_cases e : i = j
  · subst e
    rw [if_pos h, if_pos h, List.getElem?_set]
    simp only [if_true]
    by_cases hl : i < σ.length
    · rw [if_pos hl, List.getElem?_eq_getElem hl] <;> rfl
    · rw [if_neg hl, List.getElem?_eq_none (by omega)]
  · rw [List.getElem?_set_ne e]
theorem wipe_wipe {σ : L2.St} {us vs : List Nat} (h : ∀ i ∈ us, i ∈ vs) : L2.wipe (L2.wipe σ us) vs = L2.wipe σ vs := by
  induction us with
  | nil => rfl
  | cons u us ih =>
    show L2.wipe ((L2.wipe σ us).set u none) vs = L2.wipe σ vs
    rw [wipe_set (h u List.mem_cons_self)]
    exact ih fun i hi => h i (List.mem_cons_of_mem _ hi)

/-! ### targets -/
def gNms : List Nat → TGs
  | [] => gNil
  | i :: is => gCons (gName i) (gNms is)
def gTgt (K : PySem.W.Frag) (tg : List Nat) (tp : Bool) : TG := match tp, tg with
  | false, [i] => gName i
  | true, is => gTup K is.length (gNms is)
  | _, _ => fun _ _ _ _ => False
section
variable {X : Cx} {Φ : Md} {k : Nat} {S : Sy}
theorem pgs_ok (G : Good Φ k S X) : ∀ {is : List Nat} {es : List Expr}, chkTs S is es = true → PGs X es (gNms is) ∧ es.length = is.length
  | [], [], _ => ⟨pgs_nil, rfl⟩
  | [], _ :: _, h => by cases h
  | i :: is, [], h => by cases h
  | i :: is, e :: es, h => by
    cases e with
    | Name x p =>
      have h' : (locB S i x && chkTs S is es) = true := h
      rw [Bool.and_eq_true] at h'
      obtain ⟨h1, h2, h3⟩ := loc_ok G h'.1
      obtain ⟨q1, q2⟩ := pgs_ok G h'.2
      exact ⟨pgs_cons (pg_name (by rw [G.N]; exact G.nd) h1 h2 h3) q1, by rw [List.length_cons, List.length_cons, q2]⟩
    | _ => cases h
theorem nms_each : ∀ {is : List Nat} {es : List Expr} {env : PySem.Env}, chkTs S is es = true → (assignEach es env).length = is.length ∧ ∀ p ∈ assignEach es env, p.1 = false
  | [], [], _, _ => ⟨rfl, fun _ h => by cases h⟩
  | [], _ :: _, _, h => by cases h
  | i :: is, [], _, h => by cases h
  | i :: is, e :: es, env, h => by
    cases e with
    | Name x p =>
      have h' : (locB S i x && chkTs S is es) = true := h
      rw [Bool.and_eq_true] at h'
      obtain ⟨h1, h2⟩ := nms_each (env := env) h'.2
      refine ⟨congrArg Nat.succ h1, fun p hp => ?_⟩
      rcases List.mem_cons.mp hp with rfl | hp
      · rfl
      · exact h2 p hp
    | _ => cases h
theorem pg_ok (G : Good Φ k S X) (hc : S.calm = true) {tg : List Nat} {tp : Bool} {t : Expr} (h : chkTg S tg tp t = true) : PG X t (gTgt X.K tg tp) := by
  unfold chkTg at h
  split at h
  · obtain ⟨h1, h2, h3⟩ := loc_ok G h
    exact pg_name (by rw [G.N]; exact G.nd) h1 h2 h3
  · obtain ⟨q1, q2⟩ := pgs_ok G h
    obtain ⟨e1, e2⟩ := nms_each (env := X.env) h
    refine pg_tup (by rw [G.calm]; exact hc) q1 e1 (List.findIdx?_eq_none_iff.mpr fun p hp => ?_)
    exact e2 p hp
  · cases h
theorem nms_ok {K : PySem.W.Frag} {mg : Str → Option Value} {I : Hp} : ∀ {is : List Nat} {ds : List D} {vs : List V} {ρ : Rho} {σ : L2.St} {H : Hp} {Q : L2.St → Hp → Prop}, Reps K mg I ds vs → ds.length = is.length → Slots K mg I ρ σ →
    (∀ ρ' σ', ρ' = (is.zip ds).foldl (fun ρ p => ρ.set p.1 (some p.2)) ρ → Slots K mg I ρ' σ' → (∀ ws : List Nat, (∀ i ∈ is, i ∈ ws) → L2.wipe σ' ws = L2.wipe σ ws) → Q σ' H) → gNms is vs σ H Q
  | [], [], _, ρ, σ, H, Q, r, _, s, k => ⟨r, k ρ σ rfl s fun _ _ => rfl⟩
  | [], _ :: _, _, _, _, _, _, _, e, _, _ => by cases e
  | _ :: _, [], _, _, _, _, _, _, e, _, _ => by cases e
  | i :: is, d :: ds, _, ρ, σ, H, Q, r, e, s, k => by
    obtain ⟨v, w, rfl, r1, r2⟩ := r
    refine ⟨v, w, rfl, ?_⟩
    refine nms_ok r2 (by simpa using e) (s.set r1) fun ρ' σ' e' s' hw => k ρ' σ' e' s' fun ws h => ?_
    rw [hw ws fun j hj => h j (List.mem_cons_of_mem _ hj)]
    exact wipe_set (h i List.mem_cons_self)
theorem bind_ok {K : PySem.W.Frag} {mg : Str → Option Value} {H I F : Hp} {μ : Mu} {tg : List Nat} {tp : Bool} {d : D} {v : V} {ρ : Rho} {σ : L2.St} {R : Rho → Prop} {Q : L2.St → Hp → Prop} (m : HM K mg H I F μ) (r : Rep K mg I d v) (s : Slots K mg I ρ σ) (h : bindD tg tp d ρ R)
    (k : ∀ ρ' σ', R ρ' → Slots K mg I ρ' σ' → (∀ ws : List Nat, (∀ i ∈ tg, i ∈ ws) → L2.wipe σ' ws = L2.wipe σ ws) → Q σ' H) : gTgt K tg tp v σ H Q := by
  unfold bindD at h
  split at h
  · exact k _ _ h (s.set r) fun ws hw => wipe_set (hw _ List.mem_cons_self)
  · obtain ⟨ds, rfl, e, h⟩ := h
    obtain ⟨p, vs, rfl, hp, q⟩ := r
    refine ⟨p, vs, rfl, SqT.of (m.sub _ _ hp), by rw [q.length, e], ?_⟩
    exact nms_ok q e s fun ρ' σ' e' s' hw => k ρ' σ' (e' ▸ h) s' hw
  · exact h.elim

/-! ### walks, of any turn -/
theorem walk_it {J : It} {n : Nat} {G : Hp → Prop} {Y : Nat → Hp → V → Hp → Prop} (w : L2.Walk J n G Y) {H0 : Hp} {body : (Hp → Prop) → V → Hp → Prop} {Done : Hp → Prop} (Pv : Nat → Hp → Prop) (h0 : Pv 0 H0) (hG : ∀ i H, i ≤ n → Pv i H → G H)
    (hs : ∀ i x H H', i < n → Pv i H → Y i H x H' → body (Pv (i + 1)) x H') (hd : ∀ H, Pv n H → Done H) :
    ∃ W : Nat → Nat → Hp → Prop, (∃ m, W 0 m H0) ∧ ∀ i m H, W i m H → (J.stop i H ∧ Done H) ∨ (J.go i H ∧ ∃ Nx : Hp → Prop, (∀ H', Nx H' → ∃ m', m' < m ∧ W (i + 1) m' H') ∧ ∀ x H', J.yld i H x H' → body Nx x H') := by
  refine ⟨fun i m H => m = n - i ∧ i ≤ n ∧ Pv i H, ⟨n, by simp, Nat.zero_le _, h0⟩, ?_⟩
  rintro i m H ⟨rfl, hi, p⟩
  have q := hG i H hi p
  by_cases hlt : i < n
  · exact .inr ⟨w.goes i H hlt q, Pv (i + 1), fun H' p' => ⟨n - (i + 1), by omega, rfl, hlt, p'⟩, fun x H' y => hs i x H H' hlt p (w.yields i H x H' hlt q y)⟩
  · have e : i = n := by omega
    subst e
    exact .inl ⟨w.stops H q, hd H p⟩
theorem turns_g {body : D → List D → Mu → (List D → Mu → Prop) → Prop} {g : Mu → Prop} {ds acc : List D} {μ : Mu} {R : List D → Mu → Prop} (h : turns body g ds acc μ R) : g μ := by
  cases ds with
  | nil => exact h.1
  | cons _ _ => exact h.1
theorem turnsK_g {body : D → List (Key × D) → Mu → (List (Key × D) → Mu → Prop) → Prop} {g : Mu → Prop} {ds : List D} {acc : List (Key × D)} {μ : Mu} {R : List (Key × D) → Mu → Prop} (h : turnsK body g ds acc μ R) : g μ := by
  cases ds with
  | nil => exact h.1
  | cons _ _ => exact h.1
theorem drop_at {ds : List D} {i : Nat} {d : D} (h : ds[i]? = some d) : ds.drop i = d :: ds.drop (i + 1) := by
  obtain ⟨h1, h2⟩ := List.getElem?_eq_some_iff.mp h
  rw [List.drop_eq_getElem_cons h1, h2]
end

section
variable {X : Cx} {Φ : Md} {W : WX} {S : Sy} {k : Nat} {it c el : IE} {elt tg0 iter : Expr} {ifs : List Expr} {scope : Scope} {pos : Pos}
abbrev W0 : WX := fun _ _ _ _ => False
theorem kx_no {K : PySem.W.Frag} {mg : Str → Option Value} {I F : Hp} {σ : L2.St} : KX K mg I F (fun _ _ => False) W0 σ := KX.no
/-- what stands between two turns of a comprehension whose new list is at D -/
def PvC (K : PySem.W.Frag) (mg : Str → Option Value) (I1 F : Hp) (D : Addr) (rest : List PL.D → List PL.D → Mu → Prop) (ds : List PL.D) (i : Nat) (H : Hp) : Prop :=
  ∃ I' μ' acc vs, Ext I1 I' ∧ HM K mg H I' (upd F D (.lst vs)) μ' ∧ Reps K mg I' acc vs ∧ acc.length ≤ i ∧ rest (ds.drop i) acc μ'
theorem lc_end {K : PySem.W.Frag} {mg : Str → Option Value} {I1 F H I' : Hp} {μ' : Mu} {D : Addr} {acc : List PL.D} {vs : List V} {R : RD} {Q : VK} {m : Bool} (ke : KE K mg I1 F R Q) (hF : F D = none) (x : Ext I1 I') (h : HM K mg H I' (upd F D (.lst vs)) μ') (r : Reps K mg I' acc vs) (s : mkL m acc μ' R) : Q (.ref D) H := by
  cases m with
  | true =>
    obtain ⟨h1, i0, m0⟩ := h.frm D _ upd_same
    have h2 := (h.ofFM (m := .lst acc) upd_same ⟨vs, rfl, r⟩).weakF (del_upd hF)
    exact ke I' H _ (.ref D) _ x h2 rfl (s D m0)
  | false =>
    obtain ⟨h2, x2⟩ := h.ofF (p := D) upd_same
    exact ke _ H μ' (.lst acc) _ (x.trans x2) (h2.weakF (del_upd hF)) ⟨D, vs, rfl, upd_same, Reps.mono x2 _ _ r⟩ s
theorem lc_imp {m : Bool} {tg own : List Nat} {tp hc0 : Bool} (hsub : sub1 tg own = true) {σ : L2.St} {H : Hp} {Q : VK} (q : tE X Φ (.lc m el tg tp it hc0 c own) W σ H Q) : tLc (tI X Φ it W) (gTgt X.K tg tp) (tC' X Φ hc0 c W0) (tE X Φ el W0) own σ H Q := by
  have hsub' : ∀ i ∈ tg, i ∈ own := fun i hi => of_decide_eq_true (List.all_eq_true.mp hsub i hi)
  obtain ⟨I, F, μ, ρ, R, E, hm, hs, s, ke, kx⟩ := q
  refine ⟨I, F, μ, ρ, _, E, hm, hs, s, fun I1 H1 μ1 J ds g x1 m1 dw p1 => ?_, kx⟩
  obtain ⟨hlen, tr⟩ := p1
  intro Dl hD
  obtain ⟨n, GG, Y, wk, en, hG, hY⟩ := dw
  have hF : F Dl = none := m1.fnone hD
  refine lc_it wk (PvC X.K X.mg I1 F Dl (fun l acc μ => turns (fun d acc μ2 K => bindD tg tp d (wipeD ρ own) fun ρ2 => condT hc0 (semT Φ c ρ2 μ2) μ2 (fun b μ3 => match b with
        | true => semE Φ el ρ2 μ3 (fun y μ4 => K (acc ++ [y]) μ4) (fun _ _ => False)
        | false => K acc μ3) (fun _ _ => False)) g l acc μ fun acc μ2 => mkL m acc μ2 R) ds)
    ⟨I1, μ1, [], [], Ext.refl I1, m1.newF hD, rfl, Nat.le_refl _, tr⟩ (fun i H _ ⟨I', μ', acc, vs, x2, m2, _, _, t⟩ => hG _ _ _ _ x2 m2 (turns_g t)) (fun i x H H' hi hP hy => ?_) (fun H ⟨I', μ', acc, vs, x2, m2, r2, _, t⟩ => ?_)
  · obtain ⟨I', μ', acc, vs, x2, m2, r2, hl, t⟩ := hP
    obtain ⟨I2, d, e1, x3, m3, rd⟩ := hY i H I' _ μ' x H' x2 m2 (turns_g t) hi hy
    rw [drop_at e1] at t
    refine bind_ok m3 rd ((hs.mono ((x1.trans x2).trans x3)).wipe own) t.2 fun ρ2 σ2 hb s2 hw => ⟨by rw [hw own hsub', wipe_wipe fun _ h => h], ?_⟩
    refine tC_mk m3 s2 hb kx_no fun I3 H3 μ3 b x4 m4 s3 _ p3 => ?_
    cases b with
    | false =>
      rw [if_neg Bool.false_ne_true]
      exact ⟨I3, μ3, acc, vs, (x2.trans x3).trans x4, m4, Reps.mono (x3.trans x4) _ _ r2, Nat.le_succ_of_le hl, p3⟩
    | true =>
      rw [if_pos rfl]
      refine tE_mk m4 s3 p3 kx_no fun I4 H4 μ4 y v x5 m5 s4 _ r4 p4 => ?_
      have hl' : acc.length < sizeLine := Nat.lt_of_le_of_lt hl (Nat.lt_of_lt_of_le (by omega) (Nat.le_trans (en ▸ hlen) lim_le))
      have r5 := Reps.mono ((x3.trans x4).trans x5) _ _ r2
      refine ⟨vs, (m5.frm Dl _ upd_same).1, by rw [r5.length]; exact hl', I4, μ4, acc ++ [y], vs ++ [v], ((x2.trans x3).trans x4).trans x5, ?_, r5.append (.cons r4 .nil), by rw [List.length_append]; exact Nat.succ_le_succ hl, p4⟩
      have := m5.putF (o := .lst (vs ++ [v])) (p := Dl) upd_same
      rw [upd_upd] at this
      exact this
  · rw [en, List.drop_length] at t
    exact lc_end (ke.mono x1) hF x2 m2 r2 t.2
theorem c_lc (G : Good Φ k S X) (hc : S.calm = true) {m : Bool} {tg own : List Nat} {tp hc0 : Bool} (ok : blkC S.N S.sc scope (ownOf S own) = true) (hsub : sub1 tg own = true) (hset : notSet iter = true) (hi : PI X tg0 iter (tI X Φ it W))
    (hg : ∀ (s : Shared) (H : Hp) (C : Addr) (cl : List (Str × Addr)) (fp : List Addr), PG (X.blk s H scope (compEnvC scope cl C X.env) fp) tg0 (gTgt X.K tg tp))
    (ht : ∀ (s : Shared) (H : Hp) (C : Addr) (cl : List (Str × Addr)) (fp : List Addr), PTs (X.blk s H scope (compEnvC scope cl C X.env) fp) ifs (tC' X Φ hc0 c W0))
    (he : ∀ (s : Shared) (H : Hp) (C : Addr) (cl : List (Str × Addr)) (fp : List Addr), PE (X.blk s H scope (compEnvC scope cl C X.env) fp) elt (tE X Φ el W0)) :
    PE X (.ListComp elt [⟨tg0, iter, ifs, 0⟩] scope pos) (tE X Φ (.lc m el tg tp it hc0 c own) W) := by
  have cal : X.calm = true := by rw [G.calm]; exact hc
  have bk : BlkOk X.N X.env.scope scope (ownOf S own) := blkOk_by (by rw [G.N, G.sc]; exact ok)
  refine PE.imp (pe_lc cal (by rw [G.N]; exact G.nd) hi bk hg ht he (by intro _; cases iter <;> first | rfl | cases hset)) fun σ H Q q => ?_
  rw [ownOf_snd]
  exact lc_imp hsub q
theorem lc2_imp {m : Bool} {it1 c1 : IE} {tg tg1 own : List Nat} {tp tp1 hc0 hc1 : Bool} (hsub : sub1 tg own = true) {σ : L2.St} {H : Hp} {Q : VK} (q : tE X Φ (.lc2 m el tg tp it hc0 c tg1 tp1 it1 hc1 c1 own) W σ H Q) :
    tLc2 (tI X Φ it W) (gTgt X.K tg tp) (tC' X Φ hc0 c W0) (tI X Φ it1 W0) (gTgt X.K tg1 tp1) (tC' X Φ hc1 c1 W0) (tE X Φ el W0) own tg1 σ H Q := by
  have hsub' : ∀ i ∈ tg, i ∈ own := fun i hi => of_decide_eq_true (List.all_eq_true.mp hsub i hi)
  obtain ⟨I, F, μ, ρ, R, E, hm, hs, s, ke, kx⟩ := q
  refine ⟨I, F, μ, ρ, _, E, hm, hs, s, fun I1 H1 μ1 J ds g x1 m1 dw tr => ?_, kx⟩
  intro Dl hD
  obtain ⟨n, GG, Y, wk, en, hG, hY⟩ := dw
  have hF : F Dl = none := m1.fnone hD
  refine walk_it wk (fun i H => ∃ I' μ' acc vs, Ext I1 I' ∧ HM X.K X.mg H I' (upd F Dl (.lst vs)) μ' ∧ Reps X.K X.mg I' acc vs ∧ turns _ g (ds.drop i) acc μ' fun acc μ2 => mkL m acc μ2 R)
    ⟨I1, μ1, [], [], Ext.refl I1, m1.newF hD, rfl, tr⟩ (fun i H _ ⟨I', μ', acc, vs, x2, m2, _, t⟩ => hG _ _ _ _ x2 m2 (turns_g t)) (fun i x H H' hi hP hy => ?_) (fun H ⟨I', μ', acc, vs, x2, m2, r2, t⟩ => ?_)
  · obtain ⟨I', μ', acc, vs, x2, m2, r2, t⟩ := hP
    obtain ⟨I2, d, e1, x3, m3, rd⟩ := hY i H I' _ μ' x H' x2 m2 (turns_g t) hi hy
    rw [drop_at e1] at t
    refine bind_ok m3 rd ((hs.mono ((x1.trans x2).trans x3)).wipe own) t.2 fun ρ2 σ2 hb s2 hw => ⟨by rw [hw own hsub', wipe_wipe fun _ h => h], ?_⟩
    refine tC_mk m3 s2 hb kx_no fun I3 H3 μ3 b x4 m4 s3 _ p3 => ?_
    cases b with
    | false =>
      rw [if_neg Bool.false_ne_true]
      exact ⟨I3, μ3, acc, vs, (x2.trans x3).trans x4, m4, Reps.mono (x3.trans x4) _ _ r2, p3⟩
    | true =>
      rw [if_pos rfl]
      refine ⟨I3, _, μ3, ρ2, _, _, m4, s3, p3, fun I4 H4 μ4 J1 ds1 g1 x5 m5 dw1 tr1 => ?_, kx_no⟩
      obtain ⟨n1, GG1, Y1, wk1, en1, hG1, hY1⟩ := dw1
      have x24 := ((x2.trans x3).trans x4).trans x5
      refine walk_it wk1 (fun j H => ∃ I' μ' acc vs, Ext I4 I' ∧ HM X.K X.mg H I' (upd F Dl (.lst vs)) μ' ∧ Reps X.K X.mg I' acc vs ∧ turns _ g1 (ds1.drop j) acc μ' _)
        ⟨I4, μ4, acc, vs, Ext.refl I4, m5, Reps.mono ((x3.trans x4).trans x5) _ _ r2, tr1⟩ (fun j H _ ⟨I', μ', acc, vs, x6, m6, _, t⟩ => hG1 _ _ _ _ x6 m6 (turns_g t)) (fun j x' H5 H6 hj hP1 hy1 => ?_) (fun H ⟨I', μ', acc', vs', x6, m6, r6, t'⟩ => ?_)
      · obtain ⟨I5, μ5, acc5, vs5, x6, m6, r6, t6⟩ := hP1
        obtain ⟨I6, d6, e6, x7, m7, rd7⟩ := hY1 j H5 I5 _ μ5 x' H6 x6 m6 (turns_g t6) hj hy1
        rw [drop_at e6] at t6
        refine bind_ok m7 rd7 ((s3.mono ((x5.trans x6).trans x7)).wipe tg1) t6.2 fun ρ7 σ7 hb7 s7 hw7 => ⟨by rw [hw7 tg1 (fun _ h => h), wipe_wipe fun _ h => h], ?_⟩
        refine tC_mk m7 s7 hb7 kx_no fun I8 H8 μ8 b8 x8 m8 s8 _ p8 => ?_
        cases b8 with
        | false =>
          rw [if_neg Bool.false_ne_true]
          exact ⟨I8, μ8, acc5, vs5, (x6.trans x7).trans x8, m8, Reps.mono (x7.trans x8) _ _ r6, p8⟩
        | true =>
          rw [if_pos rfl]
          refine tE_mk m8 s8 p8 kx_no fun I9 H9 μ9 y v x9 m9 s9 _ r9 p9 => ?_
          have r10 := Reps.mono ((x7.trans x8).trans x9) _ _ r6
          refine ⟨vs5, (m9.frm Dl _ upd_same).1, by rw [r10.length]; exact Nat.lt_of_lt_of_le p9.1 lim_le, I9, μ9, acc5 ++ [y], vs5 ++ [v], ((x6.trans x7).trans x8).trans x9, ?_, r10.append (.cons r9 .nil), p9.2⟩
          have := m9.putF (o := .lst (vs5 ++ [v])) (p := Dl) upd_same
          rw [upd_upd] at this
          exact this
      · rw [en1, List.drop_length] at t'
        exact ⟨I', μ', acc', vs', x24.trans x6, m6, r6, t'.2⟩
  · rw [en, List.drop_length] at t
    exact lc_end (ke.mono x1) hF x2 m2 r2 t.2
theorem c_lc2 (G : Good Φ k S X) (hc : S.calm = true) {m : Bool} {it1 c1 : IE} {tg1' iter1 : Expr} {ifs1 : List Expr} {tg tg1 own : List Nat} {tp tp1 hc0 hc1 : Bool} (ok : blkC S.N S.sc scope (ownOf S own) = true) (hsub : sub1 tg own = true) (hsub1 : sub1 tg1 own = true) (hset : notSet iter = true) (hset1 : notSet iter1 = true)
    (hi : PI X tg0 iter (tI X Φ it W))
    (hg : ∀ (s : Shared) (H : Hp) (C : Addr) (cl : List (Str × Addr)) (fp : List Addr), PG (X.blk s H scope (compEnvC scope cl C X.env) fp) tg0 (gTgt X.K tg tp))
    (ht : ∀ (s : Shared) (H : Hp) (C : Addr) (cl : List (Str × Addr)) (fp : List Addr), PTs (X.blk s H scope (compEnvC scope cl C X.env) fp) ifs (tC' X Φ hc0 c W0))
    (hi1 : ∀ (s : Shared) (H : Hp) (C : Addr) (cl : List (Str × Addr)) (fp : List Addr), PI (X.blk s H scope (compEnvC scope cl C X.env) fp) tg1' iter1 (tI X Φ it1 W0))
    (hg1 : ∀ (s : Shared) (H : Hp) (C : Addr) (cl : List (Str × Addr)) (fp : List Addr), PG (X.blk s H scope (compEnvC scope cl C X.env) fp) tg1' (gTgt X.K tg1 tp1))
    (ht1 : ∀ (s : Shared) (H : Hp) (C : Addr) (cl : List (Str × Addr)) (fp : List Addr), PTs (X.blk s H scope (compEnvC scope cl C X.env) fp) ifs1 (tC' X Φ hc1 c1 W0))
    (he : ∀ (s : Shared) (H : Hp) (C : Addr) (cl : List (Str × Addr)) (fp : List Addr), PE (X.blk s H scope (compEnvC scope cl C X.env) fp) elt (tE X Φ el W0)) :
    PE X (.ListComp elt [⟨tg0, iter, ifs, 0⟩, ⟨tg1', iter1, ifs1, 0⟩] scope pos) (tE X Φ (.lc2 m el tg tp it hc0 c tg1 tp1 it1 hc1 c1 own) W) := by
  have cal : X.calm = true := by rw [G.calm]; exact hc
  have bk : BlkOk X.N X.env.scope scope (ownOf S own) := blkOk_by (by rw [G.N, G.sc]; exact ok)
  have hsub1' : ∀ i ∈ tg1, i ∈ (ownOf S own).map (·.2) := fun i hi => by rw [ownOf_snd]; exact of_decide_eq_true (List.all_eq_true.mp hsub1 i hi)
  refine PE.imp (pe_lc2 cal (by rw [G.N]; exact G.nd) hi bk hsub1' hg ht hi1 hg1 ht1 he (by intro _; cases iter <;> first | rfl | cases hset) (by intro _ _; cases iter1 <;> first | rfl | cases hset1)) fun σ H Q q => ?_
  rw [ownOf_snd]
  exact lc2_imp hsub q
theorem c_dc (G : Good Φ k S X) (hc : S.calm = true) {kx vx : Expr} {ki vi : IE} {tg own : List Nat} {tp hc0 : Bool} (ok : blkC S.N S.sc scope (ownOf S own) = true) (hsub : sub1 tg own = true) (hset : notSet iter = true) (hi : PI X tg0 iter (tI X Φ it W))
    (hg : ∀ (s : Shared) (H : Hp) (C : Addr) (cl : List (Str × Addr)) (fp : List Addr), PG (X.blk s H scope (compEnvC scope cl C X.env) fp) tg0 (gTgt X.K tg tp))
    (ht : ∀ (s : Shared) (H : Hp) (C : Addr) (cl : List (Str × Addr)) (fp : List Addr), PTs (X.blk s H scope (compEnvC scope cl C X.env) fp) ifs (tC' X Φ hc0 c W0))
    (hk : ∀ (s : Shared) (H : Hp) (C : Addr) (cl : List (Str × Addr)) (fp : List Addr), PE (X.blk s H scope (compEnvC scope cl C X.env) fp) kx (tE X Φ ki W0))
    (he : ∀ (s : Shared) (H : Hp) (C : Addr) (cl : List (Str × Addr)) (fp : List Addr), PE (X.blk s H scope (compEnvC scope cl C X.env) fp) vx (tE X Φ vi W0)) :
    PE X (.DictComp kx vx [⟨tg0, iter, ifs, 0⟩] scope pos) (tE X Φ (.dc ki vi tg tp it hc0 c own) W) := by
  have cal : X.calm = true := by rw [G.calm]; exact hc
  have bk : BlkOk X.N X.env.scope scope (ownOf S own) := blkOk_by (by rw [G.N, G.sc]; exact ok)
  have hsub' : ∀ i ∈ tg, i ∈ own := fun i hi => of_decide_eq_true (List.all_eq_true.mp hsub i hi)
  refine PE.imp (pe_dc cal (by rw [G.N]; exact G.nd) hi bk hg ht hk he (by intro _; cases iter <;> first | rfl | cases hset)) fun σ H Q ⟨I, F, μ, ρ, R, E, hm, hs, s, ke, kxx⟩ => ?_
  rw [ownOf_snd]
  refine ⟨I, F, μ, ρ, _, E, hm, hs, s, fun I1 H1 μ1 J ds g x1 m1 dw p1 => ?_, kxx⟩
  obtain ⟨hlen, tr⟩ := p1
  intro Dl hD
  obtain ⟨n, GG, Y, wk, en, hG, hY⟩ := dw
  have hF : F Dl = none := m1.fnone hD
  refine walk_it wk (fun i H => ∃ I' μ' acc vs, Ext I1 I' ∧ HM X.K X.mg H I' (upd F Dl (.dK vs)) μ' ∧ RepK X.K X.mg I' acc vs ∧ acc.length ≤ i ∧ turnsK _ g (ds.drop i) acc μ' fun acc μ2 => R (.dK acc) μ2)
    ⟨I1, μ1, [], [], Ext.refl I1, m1.newF hD, rfl, Nat.le_refl _, tr⟩ (fun i H _ ⟨I', μ', acc, vs, x2, m2, _, _, t⟩ => hG _ _ _ _ x2 m2 (turnsK_g t)) (fun i x H H' hi hP hy => ?_) (fun H ⟨I', μ', acc, vs, x2, m2, r2, _, t⟩ => ?_)
  · obtain ⟨I', μ', acc, vs, x2, m2, r2, hl, t⟩ := hP
    obtain ⟨I2, d, e1, x3, m3, rd⟩ := hY i H I' _ μ' x H' x2 m2 (turnsK_g t) hi hy
    rw [drop_at e1] at t
    refine bind_ok m3 rd ((hs.mono ((x1.trans x2).trans x3)).wipe own) t.2 fun ρ2 σ2 hb s2 hw => ⟨by rw [hw own hsub', wipe_wipe fun _ h => h], ?_⟩
    refine tC_mk m3 s2 hb kx_no fun I3 H3 μ3 b x4 m4 s3 _ p3 => ?_
    cases b with
    | false =>
      rw [if_neg Bool.false_ne_true]
      exact ⟨I3, μ3, acc, vs, (x2.trans x3).trans x4, m4, RepK.mono (x3.trans x4) _ _ r2, Nat.le_succ_of_le hl, p3⟩
    | true =>
      rw [if_pos rfl]
      refine tE_mk m4 s3 p3 kx_no fun I4 H4 μ4 y v x5 m5 s4 _ r4 p4 => ?_
      refine tE_mk m5 s4 p4 kx_no fun I5 H5 μ5 z u x6 m6 s5 _ r5 p5 => ?_
      obtain ⟨key, ek, p5⟩ := p5
      have hl' : acc.length < sizeLine := Nat.lt_of_le_of_lt hl (Nat.lt_of_lt_of_le (by omega) (Nat.le_trans (en ▸ hlen) lim_le))
      have r6 := RepK.mono (((x3.trans x4).trans x5).trans x6) _ _ r2
      refine ⟨vs, key, key_ok (Rep.mono x6 _ _ r4) ek, (m6.frm Dl _ upd_same).1, by rw [r6.length]; exact hl', I5, μ5, setK acc key z, putK vs key u, (((x2.trans x3).trans x4).trans x5).trans x6, ?_, r6.put key r5, ?_, p5⟩
      · have := m6.putF (o := .dK (putK vs key u)) (p := Dl) upd_same
        rw [upd_upd] at this
        exact this
      · refine Nat.le_trans ?_ (Nat.succ_le_succ hl)
        unfold setK
        split
        · rw [List.length_map]; exact Nat.le_succ _
        · rw [List.length_append] <;> exact Nat.le_refl _
  · rw [en, List.drop_length] at t
    obtain ⟨h2, x4⟩ := m2.ofF (p := Dl) upd_same
    exact ke _ H μ' (.dK acc) _ ((x1.trans x2).trans x4) (h2.weakF (del_upd hF)) ⟨Dl, vs, rfl, .inl upd_same, RepK.mono x4 _ _ r2⟩ t.2
end
/-! ### tuple targets with tuples in them -/
def chkT2 (S : Sy) : T2 → Expr → Bool
  | .nm i, .Name x _ => locB S i x
  | .tp is, .Tuple es _ _ => chkTs S is es
  | _, _ => false
def chkT2s (S : Sy) : List T2 → List Expr → Bool
  | [], [] => true
  | t :: ts, e :: es => chkT2 S t e && chkT2s S ts es
  | _, _ => false
def gT2 (K : PySem.W.Frag) : T2 → TG
  | .nm i => gName i
  | .tp is => gTup K is.length (gNms is)
def gT2s (K : PySem.W.Frag) : List T2 → TGs
  | [] => gNil
  | t :: ts => gCons (gT2 K t) (gT2s K ts)
section
variable {X : Cx} {Φ : Md} {k : Nat} {S : Sy}
theorem each_t2 {t : T2} {x : Expr} (h : chkT2 S t x = true) {es : List Expr} {env : PySem.Env} : assignEach (x :: es) env = (false, assign x env) :: assignEach es env := by
  unfold chkT2 at h
  split at h
  · rfl
  · rfl
  · cases h
theorem pg2_ok (G : Good Φ k S X) (hc : S.calm = true) {t : T2} {e : Expr} (h : chkT2 S t e = true) : PG X e (gT2 X.K t) := by
  unfold chkT2 at h
  split at h
  · obtain ⟨h1, h2, h3⟩ := loc_ok G h
    exact pg_name (by rw [G.N]; exact G.nd) h1 h2 h3
  · exact pg_ok (tg := _) (tp := true) G hc h
  · cases h
theorem pgs2_ok (G : Good Φ k S X) (hc : S.calm = true) : ∀ {ts : List T2} {es : List Expr}, chkT2s S ts es = true → PGs X es (gT2s X.K ts) ∧ (assignEach es X.env).length = ts.length ∧ ∀ p ∈ assignEach es X.env, p.1 = false
  | [], [], _ => ⟨pgs_nil, rfl, fun _ h => by cases h⟩
  | [], _ :: _, h => by cases h
  | _ :: _, [], h => by cases h
  | t :: ts, e :: es, h => by
    have h' : (chkT2 S t e && chkT2s S ts es) = true := h
    rw [Bool.and_eq_true] at h'
    obtain ⟨q1, q2, q3⟩ := pgs2_ok G hc h'.2
    refine ⟨pgs_cons (pg2_ok G hc h'.1) q1 (by rw [each_t2 h'.1] <;> rfl), by rw [each_t2 h'.1, List.length_cons, List.length_cons, q2], fun p hp => ?_⟩
    rw [each_t2 h'.1] at hp
    rcases List.mem_cons.mp hp with rfl | hp
    · rfl
    · exact q3 p hp
theorem pgt_ok (G : Good Φ k S X) (hc : S.calm = true) {ts : List T2} {es : List Expr} {j : Nat} {p : Pos} (h : chkT2s S ts es = true) : PG X (.Tuple es j p) (gTup X.K ts.length (gT2s X.K ts)) := by
  obtain ⟨q1, q2, q3⟩ := pgs2_ok G hc h
  exact pg_tup (by rw [G.calm]; exact hc) q1 q2 (List.findIdx?_eq_none_iff.mpr fun p hp => q3 p hp)
theorem bind2s_len : ∀ {ts : List T2} {ds : List D} {ρ : Rho} {R : Rho → Prop}, bind2s ts ds ρ R → ds.length = ts.length
  | [], [], _, _, _ => rfl
  | [], _ :: _, _, _, h => h.elim
  | _ :: _, [], _, _, h => h.elim
  | t :: ts, d :: ds, ρ, R, h => by
    cases t with
    | nm i => rw [List.length_cons, List.length_cons, bind2s_len (show bind2s ts ds (ρ.set i (some d)) R from h)]
    | tp is =>
      have h' : bindD is true d ρ fun ρ1 => bind2s ts ds ρ1 R := h
      obtain ⟨es, _, _, h'⟩ := h'
      rw [List.length_cons, List.length_cons, bind2s_len h']
theorem bind2s_ok {K : PySem.W.Frag} {mg : Str → Option Value} {H I F : Hp} {μ : Mu} (m : HM K mg H I F μ) : ∀ {ts : List T2} {ds : List D} {vs : List V} {ρ : Rho} {σ : L2.St} {R : Rho → Prop} {Q : L2.St → Hp → Prop}, Reps K mg I ds vs → Slots K mg I ρ σ → bind2s ts ds ρ R →
    (∀ ρ' σ', R ρ' → Slots K mg I ρ' σ' → Q σ' H) → gT2s K ts vs σ H Q
  | [], [], _, ρ, σ, R, Q, r, s, h, k => ⟨r, k ρ σ h s⟩
  | [], _ :: _, _, _, _, _, _, _, _, h, _ => h.elim
  | _ :: _, [], _, _, _, _, _, _, _, h, _ => h.elim
  | t :: ts, d :: ds, _, ρ, σ, R, Q, r, s, h, k => by
    obtain ⟨v, w, rfl, r1, r2⟩ := r
    cases t with
    | nm i => exact ⟨v, w, rfl, bind2s_ok m r2 (s.set r1) (show bind2s ts ds (ρ.set i (some d)) R from h) k⟩
    | tp is =>
      have h' : bindD is true d ρ fun ρ1 => bind2s ts ds ρ1 R := h
      exact ⟨v, w, rfl, bind_ok (tg := is) (tp := true) m r1 s h' fun ρ' σ' p' s' _ => bind2s_ok m r2 s' p' k⟩
theorem bind2_ok {K : PySem.W.Frag} {mg : Str → Option Value} {H I F : Hp} {μ : Mu} {ts : List T2} {d : D} {v : V} {ρ : Rho} {σ : L2.St} {R : Rho → Prop} {Q : L2.St → Hp → Prop} (m : HM K mg H I F μ) (r : Rep K mg I d v) (s : Slots K mg I ρ σ) (h : bind2 ts d ρ R)
    (k : ∀ ρ' σ', R ρ' → Slots K mg I ρ' σ' → Q σ' H) : gTup K ts.length (gT2s K ts) v σ H Q := by
  obtain ⟨ds, rfl, h⟩ := h
  obtain ⟨p, vs, rfl, hp, q⟩ := r
  exact ⟨p, vs, rfl, SqT.of (m.sub _ _ hp), by rw [q.length]; exact bind2s_len h, bind2s_ok m q s h k⟩
end
end PL
/-! PL10: every expression. -/
namespace PL
open PySem PySem.Spec PyProof.Rows L2 PySem.W

section
variable {X : Cx} {Φ : Md} {W : WX} {S : Sy} {k : Nat} {ie : IE} {e tg : Expr}
theorem PE.no (h : ∀ ρ μ R E, ¬ semE Φ ie ρ μ R E) : PE X e (tE X Φ ie W) := ⟨fun _ _ _ _ _ _ ⟨_, _, _, _, _, _, _, _, s, _⟩ => (h _ _ _ _ s).elim⟩
theorem PT.no (h : ∀ ρ μ R E, ¬ semT Φ ie ρ μ R E) : PT X e (tT X Φ ie W) := ⟨fun _ _ _ _ _ _ ⟨_, _, _, _, _, _, _, _, s, _⟩ => (h _ _ _ _ s).elim⟩
theorem PO.no {o : Option Expr} (h : ∀ ρ μ R E, ¬ semO Φ ie ρ μ R E) : PO X o (tO X Φ ie W) := ⟨fun _ _ _ _ _ _ ⟨_, _, _, _, _, _, _, _, s, _⟩ => (h _ _ _ _ s).elim⟩
theorem PI.no (h : ∀ ρ μ R E, ¬ semI Φ ie ρ μ R E) : PI X tg e (tI X Φ ie W) := ⟨fun _ _ _ _ _ _ ⟨_, _, _, _, _, _, _, _, s, _⟩ => (h _ _ _ _ s).elim⟩
theorem t_of_e (he : PE X e (tE X Φ ie W)) (htr : ∀ whole, isTrue e X.env whole = (do let v ← whole; standAt e.pos; holding [v] (truthy v)))
    (h : ∀ ρ μ R E, semT Φ ie ρ μ R E → semE Φ ie ρ μ (fun x μ1 => truth x μ1 fun k => R k μ1) E) : PT X e (tT X Φ ie W) := by
  refine PT.imp (pt_truth he htr) fun σ H Q ⟨I, F, μ, ρ, R, E, hm, hs, s, kb, kx⟩ => ?_
  refine tE_mk hm hs (h _ _ _ _ s) kx fun I1 H1 μ1 d v x1 m1 s1 kx1 r1 p1 => ?_
  obtain ⟨b, h1, h2⟩ := truth_ok (R := fun k => R k μ1) (Q := Q) m1 r1 (fun c hc => kb I1 H1 μ1 c x1 m1 hc) p1
  exact ⟨b, h1, h2⟩

structure All (Φ : Md) (k : Nat) (ie : IE) : Prop where
  e : ∀ {S : Sy} {e : Expr} {X : Cx} {W : WX}, Good Φ k S X → Takes X W → chkE ie S e = true → PE X e (tE X Φ ie W)
  t : ∀ {S : Sy} {e : Expr} {X : Cx} {W : WX}, Good Φ k S X → Takes X W → chkE ie S e = true → PT X e (tT X Φ ie W)
  o : ∀ {S : Sy} {e : Expr} {X : Cx} {W : WX}, Good Φ k S X → Takes X W → chkE ie S e = true → PO X (some e) (tO X Φ ie W)
  i : ∀ {S : Sy} {e t : Expr} {X : Cx} {W : WX}, Good Φ k S X → Takes X W → chkE ie S e = true → itTg ie t = true → PI X t e (tI X Φ ie W)
  a : ∀ {S : Sy} {l : List Expr} {j : Nat} {p : Pos} {X : Cx} {W : WX}, Good Φ k S X → Takes X W → isCs ie = true → chkE ie S (.Tuple l j p) = true → PA X l (tA X Φ ie W) ∧ l.all notStar = true


theorem no_a {Φ : Md} {k : Nat} {ie : IE} (h0 : isCs ie = false) : ∀ {S : Sy} {l : List Expr} {j : Nat} {p : Pos} {X : Cx} {W : WX}, Good Φ k S X → Takes X W → isCs ie = true → chkE ie S (.Tuple l j p) = true → PA X l (tA X Φ ie W) ∧ l.all notStar = true :=
  fun _ _ h _ => by rw [h0] at h; cases h
theorem inner_good {Φ : Md} {k : Nat} {S : Sy} {X : Cx} (G : Good Φ k S X) {scope : Scope} (s : Shared) (H : Hp) (C : Addr) (cl : List (Str × Addr)) (fp : List Addr) : Good Φ k (S.inner scope) (X.blk s H scope (compEnvC scope cl C X.env) fp) where
  tab := G.tab
  N := G.N
  sc := by
    show relS scope X.env.scope = relS scope S.sc
    rw [G.sc]
  fn := rfl
  nd := G.nd
  calm := G.calm
  room := G.room
  xs := G.xs
theorem tests_ok {Φ : Md} {k : Nat} {S : Sy} {X : Cx} {W : WX} {hc : Bool} (G : Good Φ k S X) (tk : Takes X W) {c : IE} {ifs : List Expr} (ih : All Φ k c) (h : chkIf hc ifs (chkE c S) = true) : PTs X ifs (tC' X Φ hc c W) := by
  cases hc with
  | false =>
    cases ifs with
    | nil =>
      refine ⟨fun pins s σ H Q I q => ?_⟩
      obtain ⟨I0, F, μ, ρ, R, E, hm, hs, sem, kb, kx⟩ := q
      exact pts_nil.run pins s σ H Q I (kb I0 H μ true (Ext.refl I0) hm sem)
    | cons _ _ => cases h
  | true =>
    cases ifs with
    | nil => cases h
    | cons f t =>
      cases t with
      | nil =>
        refine ⟨fun pins s σ H Q I q => ?_⟩
        exact (pts_one (ih.t G tk h)).run pins s σ H Q I q
      | cons _ _ => cases h
set_option maxHeartbeats 2000000 in
theorem bi_ok {Φ : Md} {k : Nat} {S : Sy} {X : Cx} {W : WX} {b : Bi} {m : Bool} {es : IE} (ia : All Φ k es) {e : Expr} (G : Good Φ k S X) (tk : Takes X W) (h : chkE (.bi b m es) S e = true) :
    PE X e (tE X Φ (.bi b m es) W) ∧ ∀ whole, isTrue e X.env whole = (do let v ← whole; standAt e.pos; holding [v] (truthy v)) := by
  have h : chkBi b S (isCs es) (chkE es S) e = true := h
  unfold chkBi at h
  split at h
  · cases h
  · cases h
  · split at h
    · simp only [Bool.and_eq_true, decide_eq_true_eq] at h
      obtain ⟨⟨⟨⟨⟨⟨rfl, rfl⟩, hc⟩, h1⟩, h2⟩, h3⟩, h4⟩ := h
      obtain ⟨pa, pn⟩ := ia.a G tk h3 h4
      rw [List.all_cons, Bool.and_eq_true] at pn
      exact ⟨c_lenSet G hc h1 h2 pn.1 pa, fun _ => rfl⟩
    · cases h
  · split at h
    · simp only [Bool.and_eq_true, decide_eq_true_eq] at h
      obtain ⟨⟨⟨⟨⟨⟨rfl, rfl⟩, hc⟩, h1⟩, h2⟩, h3⟩, h4⟩ := h
      obtain ⟨pa, pn⟩ := ia.a G tk h3 h4
      rw [List.all_cons, Bool.and_eq_true] at pn
      exact ⟨c_sortedSet G hc h1 h2 pn.1 pa, fun _ => rfl⟩
    · cases h
  · rename_i b' g1 g4 g2 g3
    split at h
    · rename_i x px y r p
      simp only [Bool.and_eq_true, decide_eq_true_eq] at h
      obtain ⟨⟨⟨⟨⟨rfl, hc⟩, h1⟩, h2⟩, h3⟩, h4⟩ := h
      obtain ⟨pa, pn⟩ := ia.a G tk h3 h4
      have cal : X.calm = true := by rw [G.calm]; exact hc
      have hu := units_of G hc
      refine ⟨?_, fun _ => rfl⟩
      cases b with
      | len => exact c_biB G h1 pn (by decide +kernel) PySem.boot_len (by decide +kernel) (CallR.or call_len call_lenDR) pa fun H I F μ ds vs R Q hm ke r s => bi_len hm ke r s
      | abs => exact c_biB G h1 pn (by decide +kernel) (by decide +kernel) (by decide +kernel) call_abs pa fun H I F μ ds vs R Q hm ke r s => bi_abs hm ke r s
      | int => exact c_biT G h1 pn (by decide +kernel) (by decide +kernel) (by decide +kernel) (CallR.or call_int1 call_int_str) pa fun H I F μ ds vs R Q hm ke r s => bi_int hm ke r s
      | all => exact c_biB G h1 pn (by decide +kernel) (by decide +kernel) (by decide +kernel) (cr_all cal) pa fun H I F μ ds vs R Q hm ke r s => bi_all hm ke r s
      | any => exact c_biB G h1 pn (by decide +kernel) (by decide +kernel) (by decide +kernel) (cr_any cal) pa fun H I F μ ds vs R Q hm ke r s => bi_any hm ke r s
      | list => exact c_biT G h1 pn (by decide +kernel) (by decide +kernel) (by decide +kernel) call_list_of pa fun H I F μ ds vs R Q hm ke r s => bi_list hm ke r s
      | tuple => exact c_biT G h1 pn (by decide +kernel) (by decide +kernel) (by decide +kernel) call_tuple_of pa fun H I F μ ds vs R Q hm ke r s => bi_tuple hm ke r s
      | sorted => exact c_biB G h1 pn (by decide +kernel) (by decide +kernel) (by decide +kernel) (cr_sortedD hu) pa fun H I F μ ds vs R Q hm ke r s => bi_sorted hm ke r s
      | sum => exact c_biB G h1 pn (by decide +kernel) (by decide +kernel) (by decide +kernel) (cr_sum cal) pa fun H I F μ ds vs R Q hm ke r s => bi_sum hm ke r s
      | sumL => exact c_biB G h1 pn (by decide +kernel) (by decide +kernel) (by decide +kernel) (cr_sumL cal) pa fun H I F μ ds vs R Q hm ke r s => bi_sumL hm ke r s
      | max => exact c_biB G h1 pn (by decide +kernel) (by decide +kernel) (by decide +kernel) (CallR.or (cr_max cal) (cr_maxT cal)) pa fun H I F μ ds vs R Q hm ke r s => bi_max hm ke r s
      | min => exact c_biB G h1 pn (by decide +kernel) (by decide +kernel) (by decide +kernel) (CallR.or (cr_min cal) (cr_minT cal)) pa fun H I F μ ds vs R Q hm ke r s => bi_min hm ke r s
      | max2 => exact c_biB G h1 pn (by decide +kernel) (by decide +kernel) (by decide +kernel) (call_max2 cal) pa fun H I F μ ds vs R Q hm ke r s => bi_max2 hm ke r s
      | min2 => exact c_biB G h1 pn (by decide +kernel) (by decide +kernel) (by decide +kernel) (call_min2 cal) pa fun H I F μ ds vs R Q hm ke r s => bi_min2 hm ke r s
      | str => exact c_biT G h1 pn (by decide +kernel) (by decide +kernel) (by decide +kernel) (CallR.or call_str_int SkE.call_str_str) pa fun H I F μ ds vs R Q hm ke r s => bi_str hm ke r s
      | range => exact (g1 rfl).elim
      | setI => exact (g4 rfl).elim
      | lenSet => exact (g2 rfl).elim
      | sortedSet => exact (g3 rfl).elim
    · cases h

theorem takes0 (X : Cx) : Takes X W0 := fun _ _ x => by
  obtain ⟨a, B, sI, pins, σ, H, cls, d, e, I, nb, up, sky, na, os, ag, w⟩ := x
  exact w.elim
theorem pw_ofB {X : Cx} {op : BoolOp} {x y : Expr} {r : List Expr} {p : Pos} {t : TT} (h : PT X (.BoolOp op (x :: y :: r) p) t) : PW X (.BoolOp op (x :: y :: r) p) t := ⟨fun wh pins s σ H Q I q => h.run pins s σ H Q I q⟩
section
variable {X : Cx} {Φ : Md} {W : WX} {a b : IE} {x y : Expr} {ys : List Expr} {pos : Pos}
theorem c_andT (ha : PT X x (tT X Φ a W)) (hb : PW X (.BoolOp .And (y :: ys) pos) (tT X Φ b W)) : PT X (.BoolOp .And (x :: y :: ys) pos) (tT X Φ (.and a b) W) := by
  refine PT.imp (pw_and ha hb).pt fun σ H Q ⟨I, F, μ, ρ, R, E, hm, hs, s, ke, kx⟩ => ?_
  refine tT_mk hm hs s kx fun I1 H1 μ1 q x1 m1 s1 kx1 p1 => ?_
  cases q with
  | true => exact ⟨I1, F, μ1, ρ, R, E, m1, s1, p1, ke.mono x1, kx1⟩
  | false => exact ke I1 H1 μ1 false x1 m1 p1
theorem c_orT (ha : PT X x (tT X Φ a W)) (hb : PW X (.BoolOp .Or (y :: ys) pos) (tT X Φ b W)) : PT X (.BoolOp .Or (x :: y :: ys) pos) (tT X Φ (.or a b) W) := by
  refine PT.imp (pw_or ha hb).pt fun σ H Q ⟨I, F, μ, ρ, R, E, hm, hs, s, ke, kx⟩ => ?_
  refine tT_mk hm hs s kx fun I1 H1 μ1 q x1 m1 s1 kx1 p1 => ?_
  cases q with
  | true => exact ke I1 H1 μ1 true x1 m1 p1
  | false => exact ⟨I1, F, μ1, ρ, R, E, m1, s1, p1, ke.mono x1, kx1⟩
theorem pt_ifExp {c' : IE} {e x' y' : Expr} {tc ta tb : TT} (hc : PT X e tc) (ha : PT X x' ta) (hb : PT X y' tb) : PT X (.IfExp e x' y' pos) (fun σ H Q => tc σ H fun k H1 => if k = true then ta σ H1 Q else tb σ H1 Q) := by
  refine ⟨fun pins s σ H Q I h => ?_⟩
  refine isTrue_IfExp (thn (hc.run pins s σ H _ I h) fun d s1 ⟨H1, I1, q1⟩ => ?_)
  cases d with
  | true => exact ha.run pins s1 σ H1 Q I1 q1
  | false => exact hb.run pins s1 σ H1 Q I1 q1
theorem c_iteT {c : IE} {e : Expr} (hc : PT X e (tT X Φ c W)) (ha : PT X x (tT X Φ a W)) (hb : PT X y (tT X Φ b W)) : PT X (.IfExp e x y pos) (tT X Φ (.ite c a b) W) := by
  refine PT.imp (pt_ifExp (c' := c) hc ha hb) fun σ H Q ⟨I, F, μ, ρ, R, E, hm, hs, s, ke, kx⟩ => ?_
  refine tT_mk hm hs s kx fun I1 H1 μ1 q x1 m1 s1 kx1 p1 => ?_
  cases q with
  | true => exact ⟨I1, F, μ1, ρ, R, E, m1, s1, p1, ke.mono x1, kx1⟩
  | false => exact ⟨I1, F, μ1, ρ, R, E, m1, s1, p1, ke.mono x1, kx1⟩
theorem c_notT (ha : PT X x (tT X Φ a W)) : PT X (.UnaryOp .Not x pos) (tT X Φ (.not a) W) := by
  refine PT.imp (pt_not ha) fun σ H Q ⟨I, F, μ, ρ, R, E, hm, hs, s, ke, kx⟩ => ?_
  exact tT_mk hm hs s kx fun I1 H1 μ1 q x1 m1 s1 kx1 p1 => ke I1 H1 μ1 (!q) x1 m1 p1
end
set_option maxHeartbeats 4000000 in
theorem all (Φ : Md) (k : Nat) : ∀ ie : IE, All Φ k ie := by
  intro ie
  induction ie with
  | var i =>
    have go : ∀ {S : Sy} {e : Expr}, chkE (.var i) S e = true → ∃ x p, e = .Name x p ∧ visB S i x = true := fun {S e} h => by
      unfold chkE at h
      split at h
      · exact ⟨_, _, rfl, h⟩
      · cases h
    refine ⟨fun {S e X W} G tk h => ?_, fun {S e X W} G tk h => ?_, fun {S e X W} G tk h => ?_, fun {S e t X W} G tk h _ => ?_, no_a rfl⟩ <;> obtain ⟨x, p, rfl, h⟩ := go h
    · exact c_var G h
    · exact t_of_e (c_var G h) (fun _ => rfl) fun _ _ _ _ s => s
    · exact c_part (c_var G h) fun _ _ _ _ ⟨n, e, r⟩ => ⟨.int n, e, n, rfl, r⟩
    · exact c_src (c_var G h) fun _ _ _ _ s => s
  | int n =>
    have go : ∀ {S : Sy} {e : Expr}, chkE (.int n) S e = true → ∃ j p, e = .Constant (.int n) j p := fun {S e} h => by
      unfold chkE at h
      split at h
      · cases of_decide_eq_true h; exact ⟨_, _, rfl⟩
      · cases h
    refine ⟨fun {S e X W} G tk h => ?_, fun _ _ _ => PT.no fun _ _ _ _ h => h, fun {S e X W} G tk h => ?_, fun _ _ _ _ => PI.no fun _ _ _ _ h => h, no_a rfl⟩ <;> obtain ⟨j, p, rfl⟩ := go h
    · exact c_int
    · exact c_part c_int fun _ _ _ _ s => ⟨n, rfl, s⟩
  | str n =>
    refine ⟨fun {S e X W} G tk h => ?_, fun _ _ _ => PT.no fun _ _ _ _ h => h, fun _ _ _ => PO.no fun _ _ _ _ h => h, fun _ _ _ _ => PI.no fun _ _ _ _ h => h, no_a rfl⟩
    unfold chkE at h
    split at h
    · cases of_decide_eq_true h; exact c_str
    · cases h
  | bl n =>
    refine ⟨fun {S e X W} G tk h => ?_, fun _ _ _ => PT.no fun _ _ _ _ h => h, fun _ _ _ => PO.no fun _ _ _ _ h => h, fun _ _ _ _ => PI.no fun _ _ _ _ h => h, no_a rfl⟩
    unfold chkE at h
    split at h
    · cases of_decide_eq_true h; exact c_bl
    · cases h
  | non =>
    refine ⟨fun {S e X W} G tk h => ?_, fun _ _ _ => PT.no fun _ _ _ _ h => h, fun _ _ _ => PO.no fun _ _ _ _ h => h, fun _ _ _ _ => PI.no fun _ _ _ _ h => h, no_a rfl⟩
    unfold chkE at h
    split at h
    · exact c_non
    · cases h
  | glob x =>
    refine ⟨fun {S e X W} G tk h => ?_, fun _ _ _ => PT.no fun _ _ _ _ h => h, fun _ _ _ => PO.no fun _ _ _ _ h => h, fun _ _ _ _ => PI.no fun _ _ _ _ h => h, no_a rfl⟩
    unfold chkE at h
    split at h
    · rw [Bool.and_eq_true] at h
      cases of_decide_eq_true h.1
      exact c_glob G h.2
    · cases h
  | fnv x =>
    refine ⟨fun {S e X W} G tk h => ?_, fun _ _ _ => PT.no fun _ _ _ _ h => h, fun _ _ _ => PO.no fun _ _ _ _ h => h, fun _ _ _ _ => PI.no fun _ _ _ _ h => h, no_a rfl⟩
    unfold chkE at h
    split at h
    · rw [Bool.and_eq_true] at h
      cases of_decide_eq_true h.1
      exact c_fnv G h.2
    · cases h
  | nl => exact ⟨fun {S e X W} _ _ h => (Bool.false_ne_true (show false = true from h)).elim, fun {S e X W} _ _ h => (Bool.false_ne_true (show false = true from h)).elim, fun {S e X W} _ _ h => (Bool.false_ne_true (show false = true from h)).elim, fun {S e t X W} _ _ h _ => (Bool.false_ne_true (show false = true from h)).elim, no_a rfl⟩
  | cs a b iha ihb =>
    refine ⟨fun _ _ _ => PE.no fun _ _ _ _ h => h, fun _ _ _ => PT.no fun _ _ _ _ h => h, fun _ _ _ => PO.no fun _ _ _ _ h => h, fun _ _ _ _ => PI.no fun _ _ _ _ h => h, fun {S l j p X W} G tk _ h => ?_⟩
    unfold chkE at h
    split at h
    · rename_i x r k' p' e
      cases e
      simp only [Bool.and_eq_true] at h
      obtain ⟨⟨h1, h2⟩, h3⟩ := h
      have he := iha.e G tk h2
      split at h3
      · exact ⟨c_cons h1 he c_nil, by rw [List.all_cons, h1] <;> rfl⟩
      · rw [Bool.and_eq_true] at h3
        obtain ⟨q1, q2⟩ := ihb.a G tk h3.1 h3.2
        exact ⟨c_cons h1 he q1, by rw [List.all_cons, h1, q2] <;> rfl⟩
    · cases h
  | tup es ih =>
    have go : ∀ {S : Sy} {e : Expr} {X : Cx} {W : WX}, Good Φ k S X → Takes X W → chkE (.tup es) S e = true → PE X e (tE X Φ (.tup es) W) := fun {S e X W} G tk h => by
      unfold chkE at h
      rw [Bool.and_eq_true, decide_eq_true_eq] at h
      obtain ⟨h0, h⟩ := h
      split at h
      · split at h
        · exact c_tup h0 c_nil
        · rw [Bool.and_eq_true] at h
          exact c_tup h0 (ih.a G tk h.1 h.2).1
      · cases h
    exact ⟨go, fun _ _ _ => PT.no fun _ _ _ _ h => h, fun _ _ _ => PO.no fun _ _ _ _ h => h, fun G tk h _ => c_src (go G tk h) fun _ _ _ _ s => s, no_a rfl⟩
  | lst m es ih =>
    have go : ∀ {S : Sy} {e : Expr} {X : Cx} {W : WX}, Good Φ k S X → Takes X W → chkE (.lst m es) S e = true → PE X e (tE X Φ (.lst m es) W) := fun {S e X W} G tk h => by
      unfold chkE at h
      rw [Bool.and_eq_true, decide_eq_true_eq] at h
      obtain ⟨h0, h⟩ := h
      split at h
      · split at h
        · exact c_lst h0 c_nil
        · rw [Bool.and_eq_true] at h
          exact c_lst h0 (ih.a G tk h.1 h.2).1
      · cases h
    exact ⟨go, fun _ _ _ => PT.no fun _ _ _ _ h => h, fun _ _ _ => PO.no fun _ _ _ _ h => h, fun G tk h _ => c_src (go G tk h) fun _ _ _ _ s => s, no_a rfl⟩
  | bin o m a b iha ihb =>
    have go : ∀ {S : Sy} {e : Expr} {X : Cx} {W : WX}, Good Φ k S X → Takes X W → chkE (.bin o m a b) S e = true → PE X e (tE X Φ (.bin o m a b) W) := fun {S e X W} G tk h => by
      unfold chkE at h
      split at h
      · simp only [Bool.and_eq_true, decide_eq_true_eq] at h
        obtain ⟨⟨rfl, h1⟩, h2⟩ := h
        exact c_bin (iha.e G tk h1) (ihb.e G tk h2)
      · cases h
    exact ⟨go, fun _ _ _ => PT.no fun _ _ _ _ h => h, fun G tk h => c_part (go G tk h) fun _ _ _ _ s => s, fun _ _ _ _ => PI.no fun _ _ _ _ h => h, no_a rfl⟩
  | cmp o a b iha ihb =>
    refine ⟨fun {S e X W} G tk h => ?_, fun {S e X W} G tk h => ?_, fun _ _ _ => PO.no fun _ _ _ _ h => h, fun _ _ _ _ => PI.no fun _ _ _ _ h => h, no_a rfl⟩
    all_goals
      unfold chkE at h
      split at h
      · simp only [Bool.and_eq_true, decide_eq_true_eq] at h
        obtain ⟨⟨⟨⟨rfl, h1⟩, h2⟩, h3⟩, h4⟩ := h
        first
          | exact c_cmp G h1 h2 (iha.e G tk h3) (ihb.e G tk h4)
          | exact c_cmpT G h1 h2 (iha.e G tk h3) (ihb.e G tk h4)
      · cases h
  | chain o1 o2 a b c iha ihb ihc =>
    refine ⟨fun {S e X W} G tk h => ?_, fun {S e X W} G tk h => ?_, fun _ _ _ => PO.no fun _ _ _ _ h => h, fun _ _ _ _ => PI.no fun _ _ _ _ h => h, no_a rfl⟩
    all_goals
      unfold chkE at h
      split at h
      · simp only [Bool.and_eq_true, decide_eq_true_eq] at h
        obtain ⟨⟨⟨⟨⟨⟨⟨rfl, rfl⟩, h1⟩, h2⟩, h3⟩, h4⟩, h5⟩, h6⟩ := h
        first
          | exact c_chain G h1 (iha.e G tk h4) (ihb.e G tk h5) (ihc.e G tk h6) h2 h3
          | exact c_chainT G h1 (iha.e G tk h4) (ihb.e G tk h5) (ihc.e G tk h6) h2 h3
      · cases h
  | and a b iha ihb =>
    refine ⟨fun {S e X W} G tk h => ?_, fun {S e X W} G tk h => ?_, fun _ _ _ => PO.no fun _ _ _ _ h => h, fun _ _ _ _ => PI.no fun _ _ _ _ h => h, no_a rfl⟩
    all_goals
      unfold chkE at h
      split at h
      · rw [Bool.and_eq_true] at h
        obtain ⟨h1, h2⟩ := h
        split at h2
        · first
            | exact c_and (iha.e G tk h1) (pe_one (ihb.e G tk h2))
            | exact c_andT (iha.t G tk h1) (pw_and1 (ihb.t G tk h2))
        · first
            | exact c_and (iha.e G tk h1) (ihb.e G tk h2)
            | exact c_andT (iha.t G tk h1) (pw_ofB (ihb.t G tk h2))
      · cases h
  | or a b iha ihb =>
    refine ⟨fun {S e X W} G tk h => ?_, fun {S e X W} G tk h => ?_, fun _ _ _ => PO.no fun _ _ _ _ h => h, fun _ _ _ _ => PI.no fun _ _ _ _ h => h, no_a rfl⟩
    all_goals
      unfold chkE at h
      split at h
      · rw [Bool.and_eq_true] at h
        obtain ⟨h1, h2⟩ := h
        split at h2
        · first
            | exact c_or (iha.e G tk h1) (pe_one (ihb.e G tk h2))
            | exact c_orT (iha.t G tk h1) (pw_or1 (ihb.t G tk h2))
        · first
            | exact c_or (iha.e G tk h1) (ihb.e G tk h2)
            | exact c_orT (iha.t G tk h1) (pw_ofB (ihb.t G tk h2))
      · cases h
  | not a ih =>
    refine ⟨fun {S e X W} G tk h => ?_, fun {S e X W} G tk h => ?_, fun _ _ _ => PO.no fun _ _ _ _ h => h, fun _ _ _ _ => PI.no fun _ _ _ _ h => h, no_a rfl⟩
    all_goals
      unfold chkE at h
      split at h
      · first
          | exact c_not (ih.e G tk h)
          | exact c_notT (ih.t G tk h)
      · cases h
  | neg a ih =>
    have go : ∀ {S : Sy} {e : Expr} {X : Cx} {W : WX}, Good Φ k S X → Takes X W → chkE (.neg a) S e = true → PE X e (tE X Φ (.neg a) W) := fun {S e X W} G tk h => by
      unfold chkE at h
      split at h
      · exact c_neg (ih.e G tk h)
      · cases h
    exact ⟨go, fun _ _ _ => PT.no fun _ _ _ _ h => h, fun G tk h => c_part (go G tk h) fun _ _ _ _ s => s, fun _ _ _ _ => PI.no fun _ _ _ _ h => h, no_a rfl⟩
  | ite c a b ihc iha ihb =>
    refine ⟨fun {S e X W} G tk h => ?_, fun {S e X W} G tk h => ?_, fun _ _ _ => PO.no fun _ _ _ _ h => h, fun _ _ _ _ => PI.no fun _ _ _ _ h => h, no_a rfl⟩
    all_goals
      unfold chkE at h
      split at h
      · simp only [Bool.and_eq_true] at h
        first
          | exact c_ite (ihc.t G tk h.1.1) (iha.e G tk h.1.2) (ihb.e G tk h.2)
          | exact c_iteT (ihc.t G tk h.1.1) (iha.t G tk h.1.2) (ihb.t G tk h.2)
      · cases h
  | idx a i iha ihi =>
    have go : ∀ {S : Sy} {e : Expr} {X : Cx} {W : WX}, Good Φ k S X → Takes X W → chkE (.idx a i) S e = true → PE X e (tE X Φ (.idx a i) W) ∧ ∀ whole, isTrue e X.env whole = (do let v ← whole; standAt e.pos; holding [v] (truthy v)) := fun {S e X W} G tk h => by
      unfold chkE at h
      split at h
      · simp only [Bool.and_eq_true] at h
        exact ⟨c_idx G h.1.1.1 h.1.1.2 (iha.e G tk h.1.2) (ihi.e G tk h.2), fun _ => rfl⟩
      · cases h
    exact ⟨fun G tk h => (go G tk h).1, fun G tk h => t_of_e (go G tk h).1 (go G tk h).2 fun _ _ _ _ s => s, fun _ _ _ => PO.no fun _ _ _ _ h => h, fun G tk h _ => c_src (go G tk h).1 fun _ _ _ _ s => s, no_a rfl⟩
  | slice m a lo hi iha ihl ihh =>
    have part : ∀ {S : Sy} {X : Cx} {W : WX} {lo : IE} {l : Option Expr}, All Φ k lo → Good Φ k S X → Takes X W → (match lo, l with
      | .nl, none => true
      | _, some l => chkE lo S l
      | _, _ => false) = true → PO X l (tO X Φ lo W) := fun {S X W lo l} ih G tk h => by
      split at h
      · exact c_nopart
      · exact ih.o G tk h
      · cases h
    have go : ∀ {S : Sy} {e : Expr} {X : Cx} {W : WX}, Good Φ k S X → Takes X W → chkE (.slice m a lo hi) S e = true → PE X e (tE X Φ (.slice m a lo hi) W) := fun {S e X W} G tk h => by
      unfold chkE at h
      split at h
      · rw [Bool.and_eq_true, Bool.and_eq_true] at h
        exact c_slice (iha.e G tk h.1.1) (part ihl G tk h.1.2) (part ihh G tk h.2)
      · cases h
    exact ⟨go, fun _ _ _ => PT.no fun _ _ _ _ h => h, fun _ _ _ => PO.no fun _ _ _ _ h => h, fun G tk h _ => c_src (go G tk h) fun _ _ _ _ s => s, no_a rfl⟩
  | rev m a ih =>
    refine ⟨fun {S e X W} G tk h => ?_, fun _ _ _ => PT.no fun _ _ _ _ h => h, fun _ _ _ => PO.no fun _ _ _ _ h => h, fun _ _ _ _ => PI.no fun _ _ _ _ h => h, no_a rfl⟩
    unfold chkE at h
    split at h
    · rw [Bool.and_eq_true, decide_eq_true_eq] at h
      obtain ⟨rfl, h⟩ := h
      exact c_rev (ih.e G tk h)
    · cases h
  | call f es ih =>
    have go : ∀ {S : Sy} {e : Expr} {X : Cx} {W : WX}, Good Φ k S X → Takes X W → chkE (.call f es) S e = true → PE X e (tE X Φ (.call f es) W) ∧ ∀ whole, isTrue e X.env whole = (do let v ← whole; standAt e.pos; holding [v] (truthy v)) := fun {S e X W} G tk h => by
      unfold chkE at h
      split at h
      · simp only [Bool.and_eq_true, decide_eq_true_eq] at h
        obtain ⟨⟨⟨⟨rfl, h1⟩, h2⟩, h3⟩, h4⟩ := h
        obtain ⟨q1, q2⟩ := ih.a G tk h3 h4
        exact ⟨c_call G h1 tk h2 q2 q1, fun _ => rfl⟩
      · cases h
    exact ⟨fun G tk h => (go G tk h).1, fun G tk h => t_of_e (go G tk h).1 (go G tk h).2 fun _ _ _ _ s => s, fun G tk h => c_part (go G tk h).1 fun _ _ _ _ s => s, fun G tk h _ => c_src (go G tk h).1 fun _ _ _ _ s => s, no_a rfl⟩
  | callv i es ih =>
    have go : ∀ {S : Sy} {e : Expr} {X : Cx} {W : WX}, Good Φ k S X → Takes X W → chkE (.callv i es) S e = true → PE X e (tE X Φ (.callv i es) W) ∧ ∀ whole, isTrue e X.env whole = (do let v ← whole; standAt e.pos; holding [v] (truthy v)) := fun {S e X W} G tk h => by
      unfold chkE at h
      split at h
      · simp only [Bool.and_eq_true, decide_eq_true_eq] at h
        obtain ⟨⟨⟨h1, h2⟩, h3⟩, h4⟩ := h
        obtain ⟨q1, q2⟩ := ih.a G tk h3 h4
        exact ⟨c_callv G h2 tk h1 q2 q1, fun _ => rfl⟩
      · cases h
    exact ⟨fun G tk h => (go G tk h).1, fun G tk h => t_of_e (go G tk h).1 (go G tk h).2 fun _ _ _ _ s => s, fun _ _ _ => PO.no fun _ _ _ _ h => h, fun _ _ _ _ => PI.no fun _ _ _ _ h => h, no_a rfl⟩
  | bi b m es ih =>
    exact ⟨fun G tk h => (bi_ok ih G tk h).1, fun G tk h => t_of_e (bi_ok ih G tk h).1 (bi_ok ih G tk h).2 fun _ _ _ _ s => s, fun _ _ _ => PO.no fun _ _ _ _ h => h, fun G tk h _ => c_src (bi_ok ih G tk h).1 fun _ _ _ _ s => s, no_a rfl⟩
  | inst a t ih =>
    have go : ∀ {S : Sy} {e : Expr} {X : Cx} {W : WX}, Good Φ k S X → Takes X W → chkE (.inst a t) S e = true → PE X e (tE X Φ (.inst a t) W) ∧ ∀ whole, isTrue e X.env whole = (do let v ← whole; standAt e.pos; holding [v] (truthy v)) := fun {S e X W} G tk h => by
      unfold chkE at h
      split at h
      · simp only [Bool.and_eq_true, decide_eq_true_eq] at h
        obtain ⟨⟨⟨⟨⟨⟨rfl, rfl⟩, h1⟩, h2⟩, h3⟩, h4⟩, h5⟩ := h
        exact ⟨c_inst G h2 h3 h4 (ih.e G tk h5), fun _ => rfl⟩
      · cases h
    exact ⟨fun G tk h => (go G tk h).1, fun G tk h => t_of_e (go G tk h).1 (go G tk h).2 fun _ _ _ _ s => s, fun _ _ _ => PO.no fun _ _ _ _ h => h, fun _ _ _ _ => PI.no fun _ _ _ _ h => h, no_a rfl⟩
  | meth o n es iho ihe =>
    refine ⟨fun {S e X W} G tk h => ?_, fun _ _ _ => PT.no fun _ _ _ _ h => h, fun _ _ _ => PO.no fun _ _ _ _ h => h, fun _ _ _ _ => PI.no fun _ _ _ _ h => h, no_a rfl⟩
    unfold chkE at h
    split at h
    · simp only [Bool.and_eq_true, decide_eq_true_eq] at h
      obtain ⟨⟨⟨⟨⟨⟨rfl, h1⟩, h2⟩, h3⟩, h4⟩, h5⟩, h6⟩ := h
      have arg : ∀ {y : Expr} {b : IE}, All Φ k (.cs b .nl) → notStar y = true → chkE b S y = true → PA X [y] (tA X Φ (.cs b .nl) W) := fun {y b} ih q1 q2 => by
        refine (ih.a (p := default) (j := 0) G tk rfl ?_).1
        show (notStar y && chkE b S y && true) = true
        rw [q1, q2] <;> rfl
      split at h6
      · exact c_pop0 h3 h2 (iho.e G tk h5)
      · rw [Bool.and_eq_true] at h6
        exact c_pop1 h3 h2 h6.1 (iho.e G tk h5) (arg ihe h6.1 h6.2)
      · rw [Bool.and_eq_true] at h6
        exact c_app h3 h2 h6.1 (iho.e G tk h5) (arg ihe h6.1 h6.2)
      · rw [Bool.and_eq_true] at h6
        exact c_index h3 h2 h6.1 (iho.e G tk h5) (arg ihe h6.1 h6.2)
      · cases h6
    · cases h
  | enum a ih =>
    refine ⟨fun _ _ _ => PE.no fun _ _ _ _ h => h, fun _ _ _ => PT.no fun _ _ _ _ h => h, fun _ _ _ => PO.no fun _ _ _ _ h => h, fun {S e t X W} G tk h ht => ?_, no_a rfl⟩
    unfold chkE at h
    split at h
    · simp only [Bool.and_eq_true, decide_eq_true_eq] at h
      obtain ⟨⟨⟨⟨rfl, h1⟩, h2⟩, h3⟩, h4⟩ := h
      unfold itTg at ht
      cases t with
      | Tuple es' j tp => exact c_enum G h2 h3 (ih.e G tk h4)
      | _ => cases ht
    · cases h
  | range1 a ih =>
    refine ⟨fun _ _ _ => PE.no fun _ _ _ _ h => h, fun _ _ _ => PT.no fun _ _ _ _ h => h, fun _ _ _ => PO.no fun _ _ _ _ h => h, fun {S e t X W} G tk h ht => ?_, no_a rfl⟩
    unfold chkE at h
    split at h
    · simp only [Bool.and_eq_true, decide_eq_true_eq] at h
      obtain ⟨⟨⟨⟨rfl, h1⟩, h2⟩, h3⟩, h4⟩ := h
      exact c_rng1 G h2 h3 (ih.e G tk h4)
    · cases h
  | range2 a b iha ihb =>
    refine ⟨fun _ _ _ => PE.no fun _ _ _ _ h => h, fun _ _ _ => PT.no fun _ _ _ _ h => h, fun _ _ _ => PO.no fun _ _ _ _ h => h, fun {S e t X W} G tk h ht => ?_, no_a rfl⟩
    unfold chkE at h
    split at h
    · simp only [Bool.and_eq_true, decide_eq_true_eq] at h
      obtain ⟨⟨⟨⟨⟨⟨rfl, h1⟩, h2⟩, h3⟩, h4⟩, h5⟩, h6⟩ := h
      exact c_rng2 G h2 h3 h4 (iha.e G tk h5) (ihb.e G tk h6)
    · cases h
  | rng1 m a ih =>
    refine ⟨fun {S e X W} G tk h => ?_, fun _ _ _ => PT.no fun _ _ _ _ h => h, fun _ _ _ => PO.no fun _ _ _ _ h => h, fun _ _ _ _ => PI.no fun _ _ _ _ h => h, no_a rfl⟩
    have h : chkRg1 S (chkE a S) e = true := h
    unfold chkRg1 at h
    split at h
    · simp only [Bool.and_eq_true, decide_eq_true_eq] at h
      obtain ⟨⟨⟨⟨⟨⟨rfl, rfl⟩, h1⟩, h2⟩, h3⟩, h4⟩, h5⟩ := h
      exact c_range1 G h1 h2 h3 h4 (ih.e G tk h5)
    · cases h
  | rng2 m a b iha ihb =>
    refine ⟨fun {S e X W} G tk h => ?_, fun _ _ _ => PT.no fun _ _ _ _ h => h, fun _ _ _ => PO.no fun _ _ _ _ h => h, fun _ _ _ _ => PI.no fun _ _ _ _ h => h, no_a rfl⟩
    have h : chkRg2 S (chkE a S) (chkE b S) e = true := h
    unfold chkRg2 at h
    split at h
    · simp only [Bool.and_eq_true, decide_eq_true_eq] at h
      obtain ⟨⟨⟨⟨⟨⟨⟨⟨rfl, rfl⟩, h1⟩, h2⟩, h3⟩, h4⟩, h5⟩, h6⟩, h7⟩ := h
      exact c_range2 G h1 h2 h3 h4 h5 (iha.e G tk h6) (ihb.e G tk h7)
    · cases h
  | lc m e tg tp it hc c own ihe ihi ihc =>
    have go : ∀ {S : Sy} {x : Expr} {X : Cx} {W : WX}, Good Φ k S X → Takes X W → chkE (.lc m e tg tp it hc c own) S x = true → PE X x (tE X Φ (.lc m e tg tp it hc c own) W) := fun {S x X W} G tk h => by
      have h : chkLc S tg tp hc own (itTg it) (chkE it S) (fun S' => chkE c S') (fun S' => chkE e S') x = true := h
      unfold chkLc at h
      split at h
      · simp only [Bool.and_eq_true, decide_eq_true_eq] at h
        obtain ⟨⟨⟨⟨⟨⟨⟨⟨⟨rfl, h1⟩, h2⟩, h3⟩, h4⟩, h5⟩, h6⟩, h7⟩, h8⟩, h9⟩ := h
        exact c_lc G h1 h3 h4 h2 (ihi.i G tk h6 h7) (fun s H C cl fp => pg_ok (inner_good G s H C cl fp) h1 h5) (fun s H C cl fp => tests_ok (inner_good G s H C cl fp) (takes0 _) ihc h8) (fun s H C cl fp => ihe.e (inner_good G s H C cl fp) (takes0 _) h9)
      · cases h
    exact ⟨go, fun _ _ _ => PT.no fun _ _ _ _ h => h, fun _ _ _ => PO.no fun _ _ _ _ h => h, fun G tk h _ => c_src (go G tk h) fun _ _ _ _ s => s, no_a rfl⟩
  | lc2 m e tg tp it hc c tg1 tp1 it1 hc1 c1 own ihe ihi ihc ihi1 ihc1 =>
    refine ⟨fun {S x X W} G tk h => ?_, fun _ _ _ => PT.no fun _ _ _ _ h => h, fun _ _ _ => PO.no fun _ _ _ _ h => h, fun _ _ _ _ => PI.no fun _ _ _ _ h => h, no_a rfl⟩
    have h : chkLc2 S tg tp hc tg1 tp1 hc1 own (itTg it) (itTg it1) (chkE it S) (fun S' => chkE c S') (fun S' => chkE it1 S') (fun S' => chkE c1 S') (fun S' => chkE e S') x = true := h
    unfold chkLc2 at h
    split at h
    · simp only [Bool.and_eq_true, decide_eq_true_eq] at h
      obtain ⟨⟨⟨⟨⟨⟨⟨⟨⟨⟨⟨⟨⟨⟨⟨⟨rfl, rfl⟩, h1⟩, h2⟩, h3⟩, h4⟩, h5⟩, h6⟩, h7⟩, h8⟩, h9⟩, h10⟩, h11⟩, h12⟩, h13⟩, h14⟩, h15⟩ := h
      exact c_lc2 G h1 h4 h5 h6 h2 h3 (ihi.i G tk h9 h10) (fun s H C cl fp => pg_ok (inner_good G s H C cl fp) h1 h7) (fun s H C cl fp => tests_ok (inner_good G s H C cl fp) (takes0 _) ihc h13)
        (fun s H C cl fp => ihi1.i (inner_good G s H C cl fp) (takes0 _) h11 h12) (fun s H C cl fp => pg_ok (inner_good G s H C cl fp) h1 h8) (fun s H C cl fp => tests_ok (inner_good G s H C cl fp) (takes0 _) ihc1 h14)
        (fun s H C cl fp => ihe.e (inner_good G s H C cl fp) (takes0 _) h15)
    · cases h
  | dc kk v tg tp it hc c own ihk ihv ihi ihc =>
    refine ⟨fun {S x X W} G tk h => ?_, fun _ _ _ => PT.no fun _ _ _ _ h => h, fun _ _ _ => PO.no fun _ _ _ _ h => h, fun _ _ _ _ => PI.no fun _ _ _ _ h => h, no_a rfl⟩
    have h : chkDc S tg tp hc own (itTg it) (chkE it S) (fun S' => chkE c S') (fun S' => chkE kk S') (fun S' => chkE v S') x = true := h
    unfold chkDc at h
    split at h
    · simp only [Bool.and_eq_true, decide_eq_true_eq] at h
      obtain ⟨⟨⟨⟨⟨⟨⟨⟨⟨⟨rfl, h1⟩, h2⟩, h3⟩, h4⟩, h5⟩, h6⟩, h7⟩, h8⟩, h9⟩, h10⟩ := h
      exact c_dc G h1 h3 h4 h2 (ihi.i G tk h6 h7) (fun s H C cl fp => pg_ok (inner_good G s H C cl fp) h1 h5) (fun s H C cl fp => tests_ok (inner_good G s H C cl fp) (takes0 _) ihc h8) (fun s H C cl fp => ihk.e (inner_good G s H C cl fp) (takes0 _) h9) (fun s H C cl fp => ihv.e (inner_good G s H C cl fp) (takes0 _) h10)
    · cases h
  | dnew m =>
    refine ⟨fun {S x X W} G tk h => ?_, fun _ _ _ => PT.no fun _ _ _ _ h => h, fun _ _ _ => PO.no fun _ _ _ _ h => h, fun _ _ _ _ => PI.no fun _ _ _ _ h => h, no_a rfl⟩
    unfold chkE at h
    split at h
    · refine PE.imp pe_dnewK fun σ H Q ⟨I, F, μ, ρ, R, E, hm, hs, s, ke, kx⟩ => ?_
      exact mkK_ok hm ke (ks := []) (ws := []) rfl s
    · cases h
  | chain3 o1 o2 o3 a b c d iha ihb ihc ihd =>
    refine ⟨fun {S e X W} G tk h => ?_, fun _ _ _ => PT.no fun _ _ _ _ h => h, fun _ _ _ => PO.no fun _ _ _ _ h => h, fun _ _ _ _ => PI.no fun _ _ _ _ h => h, no_a rfl⟩
    unfold chkE at h
    split at h
    · simp only [Bool.and_eq_true, decide_eq_true_eq] at h
      obtain ⟨⟨⟨⟨⟨⟨⟨⟨⟨⟨rfl, rfl⟩, rfl⟩, h1⟩, h2⟩, h3⟩, h3'⟩, h4⟩, h5⟩, h6⟩, h7⟩ := h
      exact c_chain3 G h1 (iha.e G tk h4) (ihb.e G tk h5) (ihc.e G tk h6) (ihd.e G tk h7) h3'
    · cases h
  | globS x =>
    refine ⟨fun {S e X W} G tk h => ?_, fun _ _ _ => PT.no fun _ _ _ _ h => h, fun _ _ _ => PO.no fun _ _ _ _ h => h, fun _ _ _ _ => PI.no fun _ _ _ _ h => h, no_a rfl⟩
    unfold chkE at h
    split at h
    · rw [Bool.and_eq_true] at h
      cases of_decide_eq_true h.1
      exact c_globS G h.2
    · cases h
  | split m a b iha ihb =>
    have go : ∀ {S : Sy} {e : Expr} {X : Cx} {W : WX}, Good Φ k S X → Takes X W → chkE (.split m a b) S e = true → PE X e (tE X Φ (.split m a b) W) := fun {S e X W} G tk h => by
      unfold chkE at h
      split at h
      · simp only [Bool.and_eq_true, decide_eq_true_eq] at h
        obtain ⟨⟨⟨⟨⟨rfl, h1⟩, h2⟩, h3⟩, h4⟩, h5⟩ := h
        exact c_split h2 h1 h3 (iha.e G tk h4) (ihb.e G tk h5)
      · cases h
    exact ⟨go, fun _ _ _ => PT.no fun _ _ _ _ h => h, fun _ _ _ => PO.no fun _ _ _ _ h => h, fun _ _ _ _ => PI.no fun _ _ _ _ h => h, no_a rfl⟩
  | join a b iha ihb =>
    have go : ∀ {S : Sy} {e : Expr} {X : Cx} {W : WX}, Good Φ k S X → Takes X W → chkE (.join a b) S e = true → PE X e (tE X Φ (.join a b) W) := fun {S e X W} G tk h => by
      unfold chkE at h
      split at h
      · simp only [Bool.and_eq_true, decide_eq_true_eq] at h
        obtain ⟨⟨⟨⟨⟨rfl, h1⟩, h2⟩, h3⟩, h4⟩, h5⟩ := h
        exact c_join h2 h1 h3 (iha.e G tk h4) (ihb.e G tk h5)
      · cases h
    exact ⟨go, fun _ _ _ => PT.no fun _ _ _ _ h => h, fun _ _ _ => PO.no fun _ _ _ _ h => h, fun _ _ _ _ => PI.no fun _ _ _ _ h => h, no_a rfl⟩
  | zip a b iha ihb =>
    refine ⟨fun _ _ _ => PE.no fun _ _ _ _ h => h, fun _ _ _ => PT.no fun _ _ _ _ h => h, fun _ _ _ => PO.no fun _ _ _ _ h => h, fun {S e t X W} G tk h ht => ?_, no_a rfl⟩
    unfold chkE at h
    split at h
    · simp only [Bool.and_eq_true, decide_eq_true_eq] at h
      obtain ⟨⟨⟨⟨⟨rfl, h1⟩, h2⟩, h3⟩, h4⟩, h5⟩ := h
      unfold itTg at ht
      cases t with
      | Tuple es' j tp => exact c_zip G h1 h2 h3 (iha.e G tk h4) (ihb.e G tk h5)
      | _ => cases ht
    · cases h
end
end PL
/-! PLT: a try with several clauses, some with a name; an own exception made of nothing. -/
namespace PL
open PySem PySem.Spec PyProof.Rows L2 PySem.W

/-- the ends behind a clause's suite: its name is gone -/
def shiftE (i : Option Nat) (D : Ends) : Ends := match i with
  | none => D
  | some i => { nx := fun σ' H' => D.nx (σ'.set i none) H', rt := D.rt, bk := fun σ' H' => D.bk (σ'.set i none) H', ct := fun σ' H' => D.ct (σ'.set i none) H' }
def shiftS (i : Option Nat) (a : Addr) (σ : L2.St) : L2.St := match i with
  | none => σ
  | some i => σ.set i (some (.ref a))
structure Clause where
  c : Value
  i : Option Nat
  ts : Addr → Value → Option Addr → TS
def wTry (K : PySem.W.Frag) (Wo : WX) (D : Ends) : List Clause → WX
  | [] => Wo
  | k :: r => fun cls d σ H => ∃ b, PySem.W.exmOne K cls k.c = some b ∧ (b = true → ∀ a, H a = none → k.ts a cls d (shiftE k.i D) (shiftS k.i a σ) H) ∧ (b = false → wTry K Wo D r cls d σ H)
def nameOk (X : Cx) (i : Option Nat) (n : Option Str) : Prop := match i, n with
  | none, none => True
  | some i, some n => X.N[i]? = some n ∧ X.env.kindOf n = some .local
  | _, _ => False
inductive ClsOk (X : Cx) : List ExceptHandler → List Clause → Prop
  | nil : ClsOk X [] []
  | cons {x : Str} {k : Clause} {n : Option Str} {b₀ : Stmt} {suite : List Stmt} {np pos' : Pos} {hds : List ExceptHandler} {l : List Clause} (hc : Names X x k.c) (hn : nameOk X k.i n)
      (hsu : ∀ (a : Addr) (oe : Obj) (cls : Value) (d : Option Addr) (pn : List (Addr × Obj)), Zc cls d oe → (∃ vs, oe.data = .fields vs) → PSs (X.suite a ((a, oe) :: pn)) (b₀ :: suite) (k.ts a cls d)) (r : ClsOk X hds l) :
      ClsOk X (.ExceptHandler (some (.Name x np)) n (b₀ :: suite) pos' :: hds) (k :: l)
section
variable {X : Cx} {body : List Stmt} {h₀ : ExceptHandler} {hds : List ExceptHandler} {l : List Clause} {pos : Pos} {tb : WX → TS} {Wo : WX}
theorem ps_try_cls (hs : X.stack = X.env :: X.outer) (hf : X.env.frame = some X.env.locals) (hN : X.N.Nodup) (tk : Takes X Wo)
    (hb : ∀ (W : WX) (pn : List (Addr × Obj)) (xe : Value → Shared → Prop), Takes (X.tr pn xe) W → PassesOwn (model X.prog X.w) X.A X.env xe → PSs (X.tr pn xe) body (tb W))
    (hh : ClsOk X (h₀ :: hds) l) : PS X (.Try body (h₀ :: hds) [] [] pos) (fun D σ H => tb (wTry X.K Wo D l) D σ H) := by
  refine ⟨fun pins s σ H D I h => ?_⟩
  have ok := I.ok
  refine wpAny_Try_except (wpAny_mono ((hb (wTry X.K Wo D l) (X.pn ++ pins) _ (fun u s' xx => ?_) PassesOwn.looking).run [] s σ H D (I.toTry _) h) (fun f s1 z => ?_) fun e s1 he => he)
  case refine_2 =>
    cases f with
    | next => obtain ⟨σ', H', J, q⟩ := z; exact wpAny_execs_nil ⟨σ', H', J.ofTry ok, q⟩
    | brk => obtain ⟨σ', H', J, q⟩ := z; exact ⟨σ', H', J.ofTry ok, q⟩
    | cont => obtain ⟨σ', H', J, q⟩ := z; exact ⟨σ', H', J.ofTry ok, q⟩
    | ret u => obtain ⟨v, σ', H', J, r, q⟩ := z; exact ⟨v, σ', H', J.ofTry ok, r, q⟩
  obtain ⟨a, B, sI, pins', σ', H', cls, d, rfl, J', nb, up, sky, na, os, ag, w⟩ := xx
  have J : Inv X pins σ' H' sI := J'.ofTry ok
  have sk : Sky B (X.env :: X.outer) a (Zc cls d) X.env.locals s'.heap := hs ▸ sky
  show wpAny (model X.prog X.w) X.A (noteFrame (.ref a) X.env) _ _ _
  refine Sky.land Zc.steady (by rw [ok.frames, hs]) hf sk fun h3 fl3 up3 => ?_
  have J3 : Inv X pins σ' H' { s' with heap := h3 } := J.landed nb fl3.1 (up.trans up3) os ag
  obtain ⟨oe3, vs3, he3, hz3, hd3⟩ := fl3.there
  have nfr : a ∉ frs (X.env :: X.outer) := fun hm => by
    obtain ⟨_, o, e, hnf⟩ := fl3.2.2.1.mem hm
    rw [he3] at e
    cases e
    exact hnf _ hd3
  have nL : a ≠ X.env.locals := fun z => nfr (List.mem_filterMap.mpr ⟨X.env, List.mem_cons_self, by rw [hf, z]⟩)
  have nF : a ∉ X.fs := fun hm => by
    obtain ⟨e, he, q⟩ := List.mem_filterMap.mp hm
    exact nfr (List.mem_filterMap.mpr ⟨e, List.mem_cons_of_mem _ he, q⟩)
  have S3 := J3.suite he3 hd3 na nL nF
  suffices go : ∀ {hds' : List ExceptHandler} {l' : List Clause}, ClsOk X hds' l' → wTry X.K Wo D l' cls d σ' H' →
      wpAny (model X.prog X.w) X.A (handleBy (.ref a) X.env hds') (SP X pins D) X.xe { s' with heap := h3 } from go hh w
  intro hds' l' hk
  induction hk with
  | nil =>
    intro w
    obtain ⟨_, _, _, oe, vs, T, oT, ts', he, hz, hd, h1, hr⟩ := id fl3
    have fin : wpAny (model X.prog X.w) X.A (setFlight (.ref a) X.env.frame) (fun _ s4 => wpAny (model X.prog X.w) X.A (throw (.ref a) : Sem Flow) (SP X pins D) X.xe s4) X.xe { s' with heap := h3 } := by
      rw [hf]
      exact HandSPX.setFlight_upZ fl3 fun h4 hh4 up4 => wpAny_throw (tk _ _ ⟨a, B, sI, pins, σ', H', cls, d, rfl, J, nb, (up.trans up3).trans up4, .inr (.inr (by rw [hs]; exact hh4)), na, os, ag, w⟩)
    refine wpAny_handleBy_nil ?_
    unfold PySem.passOn
    refine wpAny_bind (wpAny_field he hd h1 ?_)
    rw [if_neg (show ¬ ((Value.ref T == Value.none) = true) from by simp)]
    first
      | exact wpAny_bind (wpAny_pure (wpAny_bind fin))
      | exact wpAny_bind fin
  | @cons x k n b₀ suite np pos' hds2 l2 hc hn hsu r ih =>
    rintro ⟨b, hb1, hyes, hno⟩
    refine wpAny_handleBy_cons (codeAny_handlers_test ?_) (by intro q; cases q)
    have LT : PySem.W.Looks (model X.prog X.w) h3 (typeOf (.ref a)) cls := fun A Q E s k q => wpAny_typeOf_ref (k _ _ he3) (by rw [hz3.1]; exact q)
    have LM := PySem.W.exm_one (M := model X.prog X.w) J3.kIn LT hb1
    have test : ∀ {Q E : Value → Shared → Prop}, Q k.c { s' with heap := h3 } → wpAny (model X.prog X.w) (X.A.mark (some (.ref a))) (eval (.Name x np) X.env) Q E { s' with heap := h3 } := fun {Q E} q => by
      obtain ⟨hg, hdbg, hm | ⟨hm, hv, hnn⟩⟩ := hc
      · exact ld_glob (X := X.suite a ((a, oe3) :: (X.pn ++ pins))) S3 hg hm q hdbg
      · exact ld_blt (X := X.suite a ((a, oe3) :: (X.pn ++ pins))) S3 hg hm hv q hnn hdbg
    refine test (LM.here ?_)
    cases b with
    | false =>
      show wpAny _ X.A (handleBy (.ref a) X.env hds2) _ _ _
      exact ih (hno rfl)
    | true =>
      have hyes := hyes rfl a na
      obtain ⟨kc, ki, kts⟩ := k
      cases ki with
      | none =>
        cases n with
        | some _ => exact hn.elim
        | none =>
          refine codeAny_handlers_suite (HandSPX.lands_againZ fl3 fun h4 fl4 up4 => ?_)
          have J4 : Inv X pins σ' H' { s' with heap := h4 } := J.landed nb fl4.1 ((up.trans up3).trans up4) os ag
          obtain ⟨oe4, vs4, he4, hz4, hd4⟩ := fl4.there
          refine wpAny_mono ((hsu a oe4 cls d (X.pn ++ pins) hz4 ⟨vs4, hd4⟩).run [] _ _ H' _ (J4.suite he4 hd4 na nL nF) hyes) (fun f s6 z => ?_) fun _ _ z => z.elim
          cases f with
          | next => obtain ⟨σ6, H6, S6, q6⟩ := z; exact ⟨_, _, S6.unsuite ok, q6⟩
          | brk => obtain ⟨σ6, H6, S6, q6⟩ := z; exact ⟨_, _, S6.unsuite ok, q6⟩
          | cont => obtain ⟨σ6, H6, S6, q6⟩ := z; exact ⟨_, _, S6.unsuite ok, q6⟩
          | ret u => obtain ⟨v6, σ6, H6, S6, r6, q6⟩ := z; exact ⟨_, _, _, S6.unsuite ok, r6, q6⟩
      | some i =>
        cases n with
        | none => exact hn.elim
        | some n =>
          obtain ⟨hi, hln⟩ := hn
          refine codeAny_handlers_suite_as (HandSPX.lands_againZ fl3 fun h4 fl4 up4 => ?_)
          have J4 : Inv X pins σ' H' { s' with heap := h4 } := J.landed nb fl4.1 ((up.trans up3).trans up4) os ag
          obtain ⟨oe4, vs4, he4, hz4, hd4⟩ := fl4.there
          refine store_ok (X := X.suite a ((a, oe4) :: (X.pn ++ pins))) (v := .ref a) (J4.suite he4 hd4 na nL nF) hN hi (.inl hln) rfl (fun s5 S5 => ?_) (.inr hln)
          refine wpAny_mono ((hsu a oe4 cls d (X.pn ++ pins) hz4 ⟨vs4, hd4⟩).run [] s5 _ H' _ S5 hyes) (fun f s6 z => ?_) fun _ _ z => z.elim
          have fin : ∀ {σ6 : L2.St} {H6 : Hp} {Q : Shared → Prop}, Inv (X.suite a ((a, oe4) :: (X.pn ++ pins))) [] σ6 H6 s6 → (∀ s7, Inv X pins (σ6.set i none) H6 s7 → Q s7) →
              wpAny (model X.prog X.w) X.A (do bindName X.env n .none; unbindBehindTheSuite X.env n pos') (fun _ s7 => Q s7) X.xe s6 := fun {σ6 H6 Q} S6 hq => gone_ok (S6.unsuite ok) hN hi hln hq
          cases f with
          | next => obtain ⟨σ6, H6, S6, q6⟩ := z; exact fin S6 fun s7 J7 => ⟨_, _, J7, q6⟩
          | brk => obtain ⟨σ6, H6, S6, q6⟩ := z; exact fin S6 fun s7 J7 => ⟨_, _, J7, q6⟩
          | cont => obtain ⟨σ6, H6, S6, q6⟩ := z; exact fin S6 fun s7 J7 => ⟨_, _, J7, q6⟩
          | ret u => obtain ⟨v6, σ6, H6, S6, r6, q6⟩ := z; exact fin S6 fun s7 J7 => ⟨_, _, _, J7, r6, q6⟩
end
section
variable {X : Cx} {C : Addr} {bmB : List Value} {B newId initId : String}
/-- X() -/
theorem pmk_own0 {x : Str} {p pos : Pos} (F : ExcBaseFacts B newId initId bmB) (q : PySem.W.excIn X.K C bmB newId = true) (gC : X.mg x = some (.ref C)) (kC : PySem.W.keepIn X.K (.ref C) = true) (r : Raises X (.ref C)) (hg : Gl X x)
    (hdb : (x == ("__debug__" : Str)) = false) : PMk X (.Call (.Name x p) [] [] pos) (fun _ H Q => Q (.ref C) none H) := by
  intro pins s σ H Q I h
  refine wpAny_Call_Name_kw (ld_glob I hg gC ?_ hdb)
  refine PySem.W.callWith_K0 I.kIn kC ?_
  obtain ⟨bm, N, nm, qn, bs, hdct, sn, sub, ab, col, dd, k0, k1, k2, k3, k5, mN, hC, hN, hni, T⟩ := exc_obj I.kIn q
  exact wpAny_call_exc_subT F T hC hN hni (fun h' e hm => mk_of I hm r h (I.hok.gone hm.new)) (by show 0 ≤ sizeLine; exact Nat.zero_le _)
end
end PL
/-! PL11: statements: the look, and that they do what is meant. -/
namespace PL
open PySem PySem.Spec PyProof.Rows L2 PySem.W

def bkind (sc : Scope) : ScopeKind := if sc.kind.isAnnotationScope then .function else sc.kind
def isLoc (S : Sy) (x : Str) : Bool := S.sc.names.lookup x == some .local
def compOf : Expr → Option (Scope × Pos)
  | .ListComp _ _ s p => some (s, p)
  | .SetComp _ _ s p => some (s, p)
  | .DictComp _ _ _ s p => some (s, p)
  | _ => none
def swB (S : Sy) (x : Str) (p' : Pos) (v : Expr) : Bool := match compOf v with
  | some (s, p) => bkind S.sc == .function && isLoc S x && p'.line == p.line && !(s.names.any fun (n, k) => n == x && (k == .local || k == .cell))
  | none => false
def notComp (v : Expr) : Bool := match compOf v with
  | some _ => false
  | none => true
def notTup : Expr → Bool
  | .Tuple _ _ _ => false
  | _ => true
def notStr : Expr → Bool
  | .Constant _ _ _ => false
  | _ => true
def swName (S : Sy) (line : Nat) : Expr → Option Str
  | .Name id p => if S.sc.names.lookup id == some .local && p.line == line then some id else none
  | _ => none
def isLc : IE → Bool
  | .lc _ _ _ _ _ _ _ _ => true
  | .lc2 _ _ _ _ _ _ _ _ _ _ _ _ _ => true
  | _ => false
/-- the text of a target -/
def chkG (t : Tgt) (S : Sy) (e : Expr) : Bool := match t, e with
  | .nm i, .Name x _ => locB S i x
  | .sub a i, .Subscript o y _ => S.calm && notSlice y && chkE a S o && chkE i S y
  | _, _ => false
def isNm : Tgt → Bool
  | .nm _ => true
  | _ => false
def nameB (S : Sy) : Option Nat → Option Str → Bool
  | none, none => true
  | some i, some n => decide (S.N[i]? = some n) && isLoc S n
  | _, _ => false
def chkPar (S : Sy) (i j : Nat) (c1 c2 : Expr → Bool) (x1 x2 v1 v2 : Expr) : Bool := match x1, x2 with
  | .Name x px, .Name y py => decide (S.N[i]? = some x) && decide (S.N[j]? = some y) && decide (i ≠ j) && isLoc S x && isLoc S y && !(x == y) && py.line == px.line && bkind S.sc == .function && S.calm &&
      !([v1, v2].all (foldedForSure 8)) && !([v1, v2].all (constantsAlone 8)) && notStar v1 && notStar v2 && c1 v1 && c2 v2
  | _, _ => false
def chkTwo (S : Sy) (t1 t2 : Tgt) (c1 c2 : Expr → Bool) (x1 x2 v1 v2 : Expr) : Bool :=
  S.calm && notStar v1 && notStar v2 && (decide (([x1, x2].filterMap (swName S x1.pos.line)).length ≠ 2) || [v1, v2].all (foldedForSure 8)) && chkG t1 S x1 && chkG t2 S x2 && c1 v1 && c2 v2
mutual
def chkS : IS → Sy → Stmt → Bool
  | .nop, _, _ => false
  | .sq _ _, _, _ => false
  | .asg t e, S, st => match st with
    | .Assign [x] v _ => chkE e S v && (match t, x with
      | .nm i, .Name n p => locB S i n && (!(swB S n p v) || (isLc e && decide (S.N[i]? = some n) && isLoc S n))
      | .sub a i, .Subscript o y p => chkG (.sub a i) S (.Subscript o y p)
      | _, _ => false)
    | _ => false
  | .asg2 t1 t2 e1 e2, S, st => match st with
    | .Assign [.Tuple [x1, x2] _ _] (.Tuple [v1, v2] _ _) _ => (match t1, t2 with
      | .nm i, .nm j => chkPar S i j (chkE e1 S) (chkE e2 S) x1 x2 v1 v2
      | _, _ => false) || chkTwo S t1 t2 (chkE e1 S) (chkE e2 S) x1 x2 v1 v2
    | _ => false
  | .unp tg e, S, st => match st with
    | .Assign [.Tuple ts _ _] v _ => S.calm && chkTs S tg ts && notTup v && chkE e S v
    | _ => false
  | .expr e, S, st => match st with
    | .Expr v _ => notComp v && chkE e S v
    | _ => false
  | .aug _ _ _, _, _ => false
  | .ite c a b, S, st => match st with
    | .If t x y _ => chkE c S t && chkB a S x && chkB b S y
    | _ => false
  | .for tg tp it b, S, st => match st with
    | .For t i x [] _ => S.calm && chkTg S tg tp t && itTg it t && notSet i && chkE it S i && chkB b S x
    | _ => false
  | .while c b, S, st => match st with
    | .While t x [] _ => S.calm && chkE c S t && chkB b S x
    | _ => false
  | .ret e, S, st => match st with
    | .Return (some v) _ => chkE e S v
    | _ => false
  | .retN, _, st => match st with
    | .Return none _ => true
    | _ => false
  | .brk, _, st => match st with
    | .Break _ => true
    | _ => false
  | .cont, _, st => match st with
    | .Continue _ => true
    | _ => false
  | .pass, _, st => match st with
    | .Pass _ => true
    | _ => false
  | .raise c, S, st => match st with
    | .Raise (some (.Call (.Name x _) [] [] _)) none _ => decide (x = c) && S.calm && glB S c
    | _ => false
  | .try b h, S, st => match st with
    | .Try x (h₀ :: hs) [] [] _ => chkB b S x && chkH h S (h₀ :: hs)
    | _ => false
  | .hnil, _, _ => false
  | .hcons _ _ _ _, _, _ => false
  | .hfld _ _ _ _ _, _, _ => false
  | .forP ts it b, S, st => match st with
    | .For (.Tuple es j p) i x [] _ => S.calm && chkT2s S ts es && itTg it (.Tuple es j p) && notSet i && chkE it S i && chkB b S x
    | _ => false
  | .raise1 c e, S, st => match st with
    | .Raise (some (.Call (.Name x _) [y] [] _)) none _ => decide (x = c) && S.calm && glB S c && notStar y && chkE e S y
    | _ => false
  | .asgX i el tg tp it own, S, st => match st with
    | .Assign [.Name n p] v _ => chkLc S tg tp false own (itTg it) (chkE it S) (fun S' => chkE .nl S') (fun S' => chkE el S') v && swB S n p v && decide (S.N[i]? = some n) && isLoc S n
    | _ => false
def chkB : IS → Sy → List Stmt → Bool
  | .nop, _, l => match l with
    | [] => true
    | _ => false
  | .sq a b, S, l => match l with
    | st :: r => chkS a S st && chkB b S r
    | _ => false
  | _, _, _ => false
def chkH : IS → Sy → List ExceptHandler → Bool
  | .hnil, _, l => match l with
    | [] => true
    | _ => false
  | .hcons c i s r, S, l => match l with
    | .ExceptHandler (some (.Name x _)) n (b :: su) _ :: hs => decide (x = c) && decide (c ∈ S.xs) && glB S c && nameB S i n && chkB s { S with calm := false } (b :: su) && chkH r S hs
    | _ => false
  | .hfld c i tag f r, S, l => match l with
    | .ExceptHandler (some (.Name x _)) (some n) [.Return (some (.List [.Constant (.str t) _ _, .Attribute (.Name v _) g _] _)) _] _ :: hs => decide (x = c) && decide (c ∈ S.xs) && glB S c && nameB S (some i) (some n) && decide (t = tag) && decide (v = n) && decide (g = f) && visB { S with calm := false } i n && chkH r S hs
    | _ => false
  | _, _, _ => false
end

/-! ### what is wanted behind -/
structure KS (K : PySem.W.Frag) (mg : Str → Option Value) (I F : Hp) (E : End) (D : Ends) (W : WX) : Prop where
  nx : ∀ I' H' μ' ρ' σ', Ext I I' → HM K mg H' I' F μ' → Slots K mg I' ρ' σ' → E.nx ρ' μ' → D.nx σ' H'
  bk : ∀ I' H' μ' ρ' σ', Ext I I' → HM K mg H' I' F μ' → Slots K mg I' ρ' σ' → E.bk ρ' μ' → D.bk σ' H'
  ct : ∀ I' H' μ' ρ' σ', Ext I I' → HM K mg H' I' F μ' → Slots K mg I' ρ' σ' → E.ct ρ' μ' → D.ct σ' H'
  rt : KE K mg I F E.rt D.rt
  ex : ∀ x I' H' μ' ρ' σ' cls dd, Ext I I' → HM K mg H' I' F μ' → Slots K mg I' ρ' σ' → XRep K mg I' x cls dd → E.ex x ρ' μ' → W cls dd σ' H'
theorem KS.mono {K : PySem.W.Frag} {mg : Str → Option Value} {I I0 F : Hp} {E : End} {D : Ends} {W : WX} (k : KS K mg I F E D W) (x : Ext I I0) : KS K mg I0 F E D W :=
  ⟨fun I' H' μ' ρ' σ' e => k.nx I' H' μ' ρ' σ' (x.trans e), fun I' H' μ' ρ' σ' e => k.bk I' H' μ' ρ' σ' (x.trans e), fun I' H' μ' ρ' σ' e => k.ct I' H' μ' ρ' σ' (x.trans e), k.rt.mono x, fun y I' H' μ' ρ' σ' c d e => k.ex y I' H' μ' ρ' σ' c d (x.trans e)⟩
theorem KS.kx {K : PySem.W.Frag} {mg : Str → Option Value} {I F : Hp} {E : End} {D : Ends} {W : WX} (k : KS K mg I F E D W) {ρ : Rho} {σ : L2.St} (s : Slots K mg I ρ σ) : KX K mg I F (fun x μ' => E.ex x ρ μ') W σ :=
  fun y I' H' μ' c d e m xr ez => k.ex y I' H' μ' ρ σ c d e m (s.mono e) xr ez
theorem KS.withNx {K : PySem.W.Frag} {mg : Str → Option Value} {I F : Hp} {E : End} {D : Ends} {W : WX} (k : KS K mg I F E D W) {n : Rho → Mu → Prop} {n' : L2.St → Hp → Prop}
    (h : ∀ I' H' μ' ρ' σ', Ext I I' → HM K mg H' I' F μ' → Slots K mg I' ρ' σ' → n ρ' μ' → n' σ' H') : KS K mg I F { E with nx := n } { D with nx := n' } W := ⟨h, k.bk, k.ct, k.rt, k.ex⟩
theorem KS.loop {K : PySem.W.Frag} {mg : Str → Option Value} {I F : Hp} {E : End} {D : Ends} {W : WX} (k : KS K mg I F E D W) {n : Rho → Mu → Prop} {n' : L2.St → Hp → Prop}
    (h : ∀ I' H' μ' ρ' σ', Ext I I' → HM K mg H' I' F μ' → Slots K mg I' ρ' σ' → n ρ' μ' → n' σ' H') : KS K mg I F { E with nx := n, ct := n, bk := E.nx } { D with nx := n', ct := n', bk := D.nx } W := ⟨h, k.nx, h, k.rt, k.ex⟩
def tS (X : Cx) (Φ : Md) (is : IS) (W : WX) : TS := fun D σ H => ∃ I F μ ρ E, HM X.K X.mg H I F μ ∧ Slots X.K X.mg I ρ σ ∧ semS Φ is ρ μ E ∧ KS X.K X.mg I F E D W
theorem PS.imp {X : Cx} {e : Stmt} {t t' : TS} (h : PS X e t) (k : ∀ D σ H, t' D σ H → t D σ H) : PS X e t' := ⟨fun pins s σ H D I q => h.run pins s σ H D I (k D σ H q)⟩
theorem PSs.imp {X : Cx} {e : List Stmt} {t t' : TS} (h : PSs X e t) (k : ∀ D σ H, t' D σ H → t D σ H) : PSs X e t' := ⟨fun pins s σ H D I q => h.run pins s σ H D I (k D σ H q)⟩

/-- what stands about a suite's context -/
structure GoodS (Φ : Md) (k : Nat) (S : Sy) (X : Cx) : Prop extends Good Φ k S X where
  stk : X.stack = X.env :: X.outer
  frm : X.env.frame = some X.env.locals
  pass : S.calm = true → PassesOwn (model X.prog X.w) X.A X.env X.xe

section
variable {X : Cx} {Φ : Md} {W : WX} {S : Sy} {k : Nat} {pos : Pos}
theorem sw_ok (h : X.env.scope = S.sc) {x : Str} {p' : Pos} {v : Expr} {l : Nat} : swapsWith v (some (.Name x p')) l X.env = pure (swB S x p' v) := by
  unfold swB bkind isLoc
  rw [← h]
  cases v <;> rfl
theorem sw_sub {v o y : Expr} {p' : Pos} {l : Nat} : swapsWithSole [.Subscript o y p'] v l X.env = pure false := by
  cases v <;> rfl
theorem sw_tup {v : Expr} {ts : List Expr} {j : Nat} {p' : Pos} {l : Nat} : swapsWithSole [.Tuple ts j p'] v l X.env = pure false := by
  cases v <;> rfl
theorem sw_none {v : Expr} {l : Nat} (h : notComp v = true) : swapsWith v none l X.env = pure false := by
  cases v <;> first | rfl | cases h
theorem st_sub {v o y : Expr} {p' : Pos} : swappedStores [.Subscript o y p'] v X.env = pure none := by
  cases v <;> rfl
theorem st_tup {v : Expr} {ts : List Expr} {j : Nat} {p' : Pos} (h : notTup v = true) : swappedStores [.Tuple ts j p'] v X.env = pure none := by
  cases v <;> first | rfl | cases h
theorem asg_imp {i : Nat} {e : IE} {D : Ends} {σ : L2.St} {H : Hp} (q : tS X Φ (.asg (.nm i) e) W D σ H) : tE X Φ e W σ H fun x H1 => gName i x σ H1 D.nx := by
  obtain ⟨I, F, μ, ρ, E, hm, hs, s, ks⟩ := q
  refine tE_mk hm hs s (ks.kx hs) fun I1 H1 μ1 d v x1 m1 s1 kx1 r1 p1 => ?_
  exact ks.nx I1 H1 μ1 _ _ x1 m1 (s1.set r1) p1
def isStar : Expr → Bool
  | .Starred _ _ => true
  | _ => false
def swF (env : PySem.Env) (line : Nat) : Expr → Option Str
  | .Name id p => if env.kindOf id == some .local && p.line == line then some id else none
  | _ => none
theorem sw0_eq {env : PySem.Env} {x1 x2 v1 v2 : Expr} {j j2 : Nat} {p1 p2 : Pos} : swappedStores [.Tuple [x1, x2] j p1] (.Tuple [v1, v2] j2 p2) env =
    (if (!([x1, x2].length == 2 || [x1, x2].length == 3) || [v1, v2].length != [x1, x2].length || env.blockKind != .function) = true then pure none
    else if ([v1, v2].any isStar) = true then pure none
    else if (([x1, x2].filterMap (swF env x1.pos.line)).length != [x1, x2].length || ([x1, x2].filterMap (swF env x1.pos.line)).eraseDups.length != ([x1, x2].filterMap (swF env x1.pos.line)).length) = true then pure none
    else if [v1, v2].all (foldedForSure 8) = true then pure none
    else if [v1, v2].all (constantsAlone 8) = true then do
      unsupported "assign.tuple-of-constant-expressions:order-of-the-stores"
      pure (some ([x1, x2].filterMap (swF env x1.pos.line)))
    else pure (some ([x1, x2].filterMap (swF env x1.pos.line)))) := rfl
theorem swF_eq (h : X.env.scope = S.sc) (line : Nat) : swF X.env line = swName S line := by
  funext z
  unfold swF swName Env.kindOf
  rw [h]
theorem no_star {v : Expr} (h : notStar v = true) : isStar v = false := by
  cases v <;> first | rfl | cases h
theorem st_off (h : X.env.scope = S.sc) {x1 x2 v1 v2 : Expr} {j j2 : Nat} {p1 p2 : Pos} (h1 : notStar v1 = true) (h2 : notStar v2 = true) (hh : (([x1, x2].filterMap (swName S x1.pos.line)).length ≠ 2) ∨ [v1, v2].all (foldedForSure 8) = true) :
    swappedStores [.Tuple [x1, x2] j p1] (.Tuple [v1, v2] j2 p2) X.env = pure none := by
  rw [sw0_eq, swF_eq h]
  generalize [x1, x2].filterMap (swName S x1.pos.line) = ns at *
  split
  · rfl
  split
  · rfl
  split
  · rfl
  split
  · rfl
  rename_i q1 q2 q3 q4
  rcases hh with hh | hh
  · exact absurd (by simp [hh]) q3
  · exact absurd hh q4
theorem st_on (h : X.env.scope = S.sc) {x y : Str} {px py : Pos} {v1 v2 : Expr} {j j2 : Nat} {p1 p2 : Pos} (h1 : notStar v1 = true) (h2 : notStar v2 = true) (hx : isLoc S x = true) (hy : isLoc S y = true) (hxy : (x == y) = false) (hl : (py.line == px.line) = true)
    (hk : (bkind S.sc == .function) = true) (hf : [v1, v2].all (foldedForSure 8) = false) (hcn : [v1, v2].all (constantsAlone 8) = false) :
    swappedStores [.Tuple [.Name x px, .Name y py] j p1] (.Tuple [v1, v2] j2 p2) X.env = pure (some [x, y]) := by
  have e1 : [Expr.Name x px, Expr.Name y py].filterMap (swF X.env (Expr.Name x px).pos.line) = [x, y] := by
    rw [swF_eq h]
    unfold isLoc at hx hy
    have q1 : swName S (Expr.Name x px).pos.line (.Name x px) = some x := by
      show (if (S.sc.names.lookup x == some .local && px.line == px.line) = true then some x else none) = some x
      rw [hx, beq_self_eq_true] <;> rfl
    have q2 : swName S (Expr.Name x px).pos.line (.Name y py) = some y := by
      show (if (S.sc.names.lookup y == some .local && py.line == px.line) = true then some y else none) = some y
      rw [hy, hl] <;> rfl
    rw [List.filterMap_cons, q1, List.filterMap_cons, q2] <;> rfl
  have hb : (X.env.blockKind != .function) = false := by
    have : X.env.blockKind = bkind S.sc := by unfold Env.blockKind bkind; rw [h] <;> rfl
    rw [this]
    rw [bne, hk] <;> rfl
  have ed : [x, y].eraseDups.length = 2 := by
    have hyx : (y == x) = false := by
      rw [Bool.eq_false_iff] at hxy ⊢
      intro z
      exact hxy (by rw [eq_of_beq z]; exact beq_self_eq_true x)
    have e2 : ([y].filter fun b => !b == x) = [y] := by simp [hyx]
    rw [List.eraseDups_cons, e2, List.eraseDups_cons]
    simp
  rw [sw0_eq, e1, if_neg (by rw [hb]; exact Bool.false_ne_true), if_neg (by rw [List.any_cons, List.any_cons, no_star h1, no_star h2]; exact Bool.false_ne_true), if_neg (by rw [ed]; exact Bool.false_ne_true), if_neg (by rw [hf]; exact Bool.false_ne_true), if_neg (by rw [hcn]; exact Bool.false_ne_true)]
end

theorem fold_ok' {i : Expr} {env : PySem.Env} (h : notSet i = true) : ∀ x, foldedSetIterable i env x = pure x := by
  intro x
  cases i <;> first | rfl | cases h
theorem fold_ok {X : Cx} {i : Expr} (h : notSet i = true) : ∀ x, foldedSetIterable i X.env x = pure x := fold_ok' h
/-! ### o[i] = v -/
theorem PSet.or {X : Cx} {t u : TSet} (h : PSet X t) (k : PSet X u) : PSet X (fun o i v H Q => t o i v H Q ∨ u o i v H Q) := fun pins s σ H o i v ov iv w Q I ro ri rv q => q.elim (h pins s σ H o i v ov iv w Q I ro ri rv) (k pins s σ H o i v ov iv w Q I ro ri rv)
section
variable {K : PySem.W.Frag} {mg : Str → Option Value} {H I F : Hp} {μ : Mu}
theorem set_ok {x y d : D} {o i v : V} {R : Mu → Prop} {Q : Hp → Prop} (h : HM K mg H I F μ) (rx : Rep K mg I x o) (ry : Rep K mg I y i) (rd : Rep K mg I d v) (s : opSet x y d μ R) (k : ∀ H' μ', HM K mg H' I F μ' → R μ' → Q H') : rSetL o i v H Q ∨ rSetD o i v H Q := by
  rcases s with ⟨a, ds, n, j, rfl, rfl, e, hj, s⟩ | ⟨a, ks, n, rfl, en, e, hl, s⟩
  · obtain ⟨_, u, hu, vs, rfl, rs⟩ := h.muts _ _ e
    exact .inl ⟨a, vs, n, j, rx, ry, hu, by rw [rs.length]; exact hj, k _ _ (h.put (m := .lst (ds.set j d)) e ⟨_, rfl, Reps.set rd j rs⟩) s⟩
  · obtain ⟨_, u, hu, ws, rfl, rs⟩ := h.muts _ _ e
    have hl' : ws.length < sizeLine := by rw [rs.length]; exact Nat.lt_of_lt_of_le hl lim_le
    exact .inr ⟨a, _, rx, by rw [key_ok ry en]; exact DPut.k hu hl', k _ _ (h.put (m := .dK (setK ks n d)) e ⟨_, rfl, rs.put n rd⟩) s⟩
theorem Slots.setAny {ρ : Rho} {σ : L2.St} {i : Nat} (s : Slots K mg I ρ σ) (x : Option V) : Slots K mg I (ρ.set i none) (σ.set i x) := by
  refine ⟨by rw [List.length_set, List.length_set]; exact s.1, fun j e h => ?_⟩
  by_cases hj : i = j
  · subst hj
    by_cases hl : i < ρ.length
    · rw [List.getElem?_set_self hl] at h; cases h
    · rw [List.getElem?_eq_none (by simpa using hl)] at h; cases h
  · rw [List.getElem?_set_ne hj] at h ⊢
    exact s.2 j e h
end
section
variable {X : Cx} {Φ : Md} {W : WX} {S : Sy} {k : Nat} {pos : Pos}
def gG (X : Cx) (Φ : Md) (t : Tgt) (W : WX) : TG := match t with
  | .nm i => gName i
  | .sub a i => gSub (tE X Φ a W) (tE X Φ i W) (fun o y v H Q => rSetL o y v H Q ∨ rSetD o y v H Q)
theorem ixa_ok {o y : Expr} {p : Pos} (h : notSlice y = true) : ∀ v, assign (.Subscript o y p) X.env v = (do
      let ov ← holding [v] (eval o X.env)
      let iv ← holding [v, ov] (eval y X.env)
      standAt p
      holding [v, ov, iv] (setItem ov iv v)
      release [v, ov, iv] []) := by
  intro v
  cases y <;> first | rfl | cases h
theorem pgg_ok (G : Good Φ k S X) (tk : Takes X W) {t : Tgt} {e : Expr} (h : chkG t S e = true) : PG X e (gG X Φ t W) := by
  unfold chkG at h
  split at h
  · obtain ⟨h1, h2, h3⟩ := loc_ok G h
    exact pg_name (by rw [G.N]; exact G.nd) h1 h2 h3
  · simp only [Bool.and_eq_true] at h
    have hu := units_of G h.1.1.1
    exact pg_sub ((all Φ k _).e G tk h.1.2) ((all Φ k _).e G tk h.2) (PSet.or set_list (set_dict (by omega))) (ixa_ok h.1.1.2)
  · cases h
theorem gg_ok {I F H : Hp} {μ : Mu} {ρ : Rho} {σ : L2.St} {E : RX} {t : Tgt} {d : D} {v : V} {R : Rho → Mu → Prop} {Q : L2.St → Hp → Prop} (hm : HM X.K X.mg H I F μ) (hs : Slots X.K X.mg I ρ σ) (r : Rep X.K X.mg I d v) (s : semG Φ t d ρ μ R E) (kx : KX X.K X.mg I F E W σ)
    (q : ∀ I' H' μ' ρ' σ', Ext I I' → HM X.K X.mg H' I' F μ' → Slots X.K X.mg I' ρ' σ' → R ρ' μ' → Q σ' H') : gG X Φ t W v σ H Q := by
  cases t with
  | nm i => exact q I H μ _ _ (Ext.refl I) hm (hs.set r) s
  | sub a i =>
    refine tE_mk hm hs s kx fun I1 H1 μ1 d1 v1 x1 m1 s1 kx1 r1 p1 => ?_
    refine tE_mk m1 s1 p1 kx1 fun I2 H2 μ2 d2 v2 x2 m2 s2 kx2 r2 p2 => ?_
    exact set_ok m2 (Rep.mono x2 _ _ r1) r2 (Rep.mono (x1.trans x2) _ _ r) p2 fun H' μ' m' p' => q I2 H' μ' _ _ (x1.trans x2) m' s2 p'
theorem each_one {x : Expr} {t : Tgt} (h : chkG t S x = true) {es : List Expr} {env : PySem.Env} : assignEach (x :: es) env = (false, assign x env) :: assignEach es env := by
  unfold chkG at h
  split at h
  · rfl
  · rfl
  · cases h
structure AllS (Φ : Md) (k : Nat) (is : IS) : Prop where
  s : ∀ {S : Sy} {st : Stmt} {X : Cx} {W : WX}, GoodS Φ k S X → Takes X W → chkS is S st = true → PS X st (tS X Φ is W)
  b : ∀ {S : Sy} {l : List Stmt} {X : Cx} {W : WX}, GoodS Φ k S X → Takes X W → chkB is S l = true → PSs X l (tS X Φ is W)
  h : ∀ {S : Sy} {hs : List ExceptHandler} {X : Cx}, GoodS Φ k S X → chkH is S hs = true → ∃ l, ClsOk X hs l ∧ ∀ {W : WX} {D : Ends} {σ : L2.St} {H I F : Hp} {μ : Mu} {ρ : Rho} {E : End} {x : Exc} {cls : Value} {dd : Option Addr},
    HM X.K X.mg H I F μ → Slots X.K X.mg I ρ σ → XRep X.K X.mg I x cls dd → semH Φ is x ρ μ E → KS X.K X.mg I F E D W → wTry X.K W D l cls dd σ H

theorem GoodS.tr (G : GoodS Φ k S X) {pn : List (Addr × Obj)} {xe : Value → Shared → Prop} (h : PassesOwn (model X.prog X.w) X.A X.env xe) : GoodS Φ k S (X.tr pn xe) := ⟨⟨G.tab, G.N, G.sc, G.fn, G.nd, G.calm, G.room, G.xs⟩, G.stk, G.frm, fun _ => h⟩
theorem GoodS.suite (G : GoodS Φ k S X) {a : Addr} {pn : List (Addr × Obj)} : GoodS Φ k { S with calm := false } (X.suite a pn) :=
  ⟨⟨G.tab, G.N, G.sc, G.fn, G.nd, rfl, (fun z => by cases z), G.xs⟩, G.stk, G.frm, fun z => by cases z⟩
theorem no_s {is : IS} (hh : ∀ S st, chkS is S st = false) : ∀ {S : Sy} {st : Stmt} {X : Cx} {W : WX}, GoodS Φ k S X → Takes X W → chkS is S st = true → PS X st (tS X Φ is W) := fun _ _ h => by rw [hh] at h; cases h
theorem no_b {is : IS} (hh : ∀ S st, chkB is S st = false) : ∀ {S : Sy} {l : List Stmt} {X : Cx} {W : WX}, GoodS Φ k S X → Takes X W → chkB is S l = true → PSs X l (tS X Φ is W) := fun _ _ h => by rw [hh] at h; cases h
theorem no_h {is : IS} (hh : ∀ S st, chkH is S st = false) : ∀ {S : Sy} {hs : List ExceptHandler} {X : Cx}, GoodS Φ k S X → chkH is S hs = true → ∃ l, ClsOk X hs l ∧ ∀ {W : WX} {D : Ends} {σ : L2.St} {H I F : Hp} {μ : Mu} {ρ : Rho} {E : End} {x : Exc} {cls : Value} {dd : Option Addr},
    HM X.K X.mg H I F μ → Slots X.K X.mg I ρ σ → XRep X.K X.mg I x cls dd → semH Φ is x ρ μ E → KS X.K X.mg I F E D W → wTry X.K W D l cls dd σ H := fun _ h => by rw [hh] at h; cases h
theorem asg_ok (G : GoodS Φ k S X) (tk : Takes X W) {t : Tgt} {e : IE} {st : Stmt} (h : chkS (.asg t e) S st = true) : PS X st (tS X Φ (.asg t e) W) := by
  unfold chkS at h
  split at h
  · rename_i x v p
    rw [Bool.and_eq_true] at h
    obtain ⟨hv, h⟩ := h
    have he := (all Φ k e).e G.toGood tk hv
    split at h
    · rename_i i n p'
      rw [Bool.and_eq_true] at h
      obtain ⟨h1, h2⟩ := h
      obtain ⟨q1, q2, q3⟩ := loc_ok G.toGood h1
      cases hw : swB S n p' v with
      | false => exact PS.imp (ps_set (by rw [G.N]; exact G.nd) q1 q2 he (by rw [sw_ok G.sc, hw]) q3) fun D σ H q => asg_imp q
      | true =>
        rw [hw] at h2
        simp only [Bool.not_true, Bool.false_or, Bool.and_eq_true, decide_eq_true_eq] at h2
        obtain ⟨⟨hlc, hn⟩, hl⟩ := h2
        have hloc : X.env.scope.names.lookup n = some .local := by
          rw [G.sc]
          exact eq_of_beq hl
        have hsw : swapsWith v (some (.Name n p')) p.line X.env = pure true := by rw [sw_ok G.sc, hw]
        cases e with
        | lc m e tg tp it hc c own =>
          have hv : chkLc S tg tp hc own (itTg it) (chkE it S) (fun S' => chkE c S') (fun S' => chkE e S') v = true := hv
          unfold chkLc at hv
          split at hv
          · simp only [Bool.and_eq_true, decide_eq_true_eq] at hv
            obtain ⟨⟨⟨⟨⟨⟨⟨⟨⟨rfl, h1⟩, h2⟩, h3⟩, h4⟩, h5⟩, h6⟩, h7⟩, h8⟩, h9⟩ := hv
            have cal : X.calm = true := by rw [G.calm]; exact h1
            refine PS.imp (ps_setLc (te := tE X Φ e W0) (tt := tC' X Φ hc c W0) (g := gTgt X.K tg tp) cal (by rw [G.N]; exact G.nd) q1 hloc hsw ((all Φ k it).i G.toGood tk h6 h7) (blkOk_by (by rw [G.N, G.sc]; exact h3)) (fun s H C cl fp => pg_ok (inner_good G.toGood s H C cl fp) h1 h5) (fun s H C cl fp => tests_ok (inner_good G.toGood s H C cl fp) (takes0 _) (all Φ k c) h8) (fun s H C cl fp => (all Φ k e).e (inner_good G.toGood s H C cl fp) (takes0 _) h9)
              (fold_ok h2)) fun D σ H q => ?_
            rw [ownOf_snd]
            exact lc_imp h4 (asg_imp q)
          · cases hv
        | lc2 m e tg tp it hc c tg1 tp1 it1 hc1 c1 own =>
          have hv : chkLc2 S tg tp hc tg1 tp1 hc1 own (itTg it) (itTg it1) (chkE it S) (fun S' => chkE c S') (fun S' => chkE it1 S') (fun S' => chkE c1 S') (fun S' => chkE e S') v = true := hv
          unfold chkLc2 at hv
          split at hv
          · simp only [Bool.and_eq_true, decide_eq_true_eq] at hv
            obtain ⟨⟨⟨⟨⟨⟨⟨⟨⟨⟨⟨⟨⟨⟨⟨⟨rfl, rfl⟩, h1⟩, h2⟩, h3⟩, h4⟩, h5⟩, h6⟩, h7⟩, h8⟩, h9⟩, h10⟩, h11⟩, h12⟩, h13⟩, h14⟩, h15⟩ := hv
            have cal : X.calm = true := by rw [G.calm]; exact h1
            refine PS.imp (ps_setLc2 (te := tE X Φ e W0) (tt := tC' X Φ hc c W0) (tt1 := tC' X Φ hc1 c1 W0) (wi1 := tI X Φ it1 W0) (g := gTgt X.K tg tp) (g1 := gTgt X.K tg1 tp1) cal (by rw [G.N]; exact G.nd) q1 hloc hsw ((all Φ k it).i G.toGood tk h9 h10) (blkOk_by (by rw [G.N, G.sc]; exact h4)) (fun i hi => by rw [ownOf_snd]; exact of_decide_eq_true (List.all_eq_true.mp h6 i hi)) (fun s H C cl fp => pg_ok (inner_good G.toGood s H C cl fp) h1 h7) (fun s H C cl fp => tests_ok (inner_good G.toGood s H C cl fp) (takes0 _) (all Φ k c) h13)
              (fun s H C cl fp => (all Φ k it1).i (inner_good G.toGood s H C cl fp) (takes0 _) h11 h12) (fun s H C cl fp => pg_ok (inner_good G.toGood s H C cl fp) h1 h8) (fun s H C cl fp => tests_ok (inner_good G.toGood s H C cl fp) (takes0 _) (all Φ k c1) h14) (fun s H C cl fp => (all Φ k e).e (inner_good G.toGood s H C cl fp) (takes0 _) h15)
              (fold_ok h2) (fun env => fold_ok' h3)) fun D σ H q => ?_
            rw [ownOf_snd]
            exact lc2_imp h5 (asg_imp q)
          · cases hv
        | _ => cases hlc
    · rename_i a i o y p'
      have hg := pgg_ok (Φ := Φ) (W := W) G.toGood tk h
      refine PS.imp (ps_asg he hg sw_sub st_sub rfl) fun D σ H q => ?_
      obtain ⟨I, F, μ, ρ, E, hm, hs, s, ks⟩ := q
      refine tE_mk hm hs s (ks.kx hs) fun I1 H1 μ1 d v x1 m1 s1 kx1 r1 p1 => ?_
      exact gg_ok m1 s1 r1 p1 kx1 fun I' H' μ' ρ' σ' x2 => ks.nx I' H' μ' ρ' σ' (x1.trans x2)
    · cases h
  · cases h

theorem two_inv' {K : PySem.W.Frag} {mg : Str → Option Value} {I : Hp} {d1 d2 : D} {vs : List V} (r : Reps K mg I [d1, d2] vs) : ∃ v w, vs = [v, w] ∧ Rep K mg I d1 v ∧ Rep K mg I d2 w := by
  obtain ⟨v, w, rfl, r1, r2⟩ := r
  obtain ⟨v2, w2, rfl, r3, r4⟩ := r2
  rw [show w2 = [] from r4]
  exact ⟨v, v2, rfl, r1, r3⟩
theorem asg2_ok (G : GoodS Φ k S X) (tk : Takes X W) {t1 t2 : Tgt} {e1 e2 : IE} {st : Stmt} (h : chkS (.asg2 t1 t2 e1 e2) S st = true) : PS X st (tS X Φ (.asg2 t1 t2 e1 e2) W) := by
  unfold chkS at h
  split at h
  · rename_i x1 x2 j1 p1 v1 v2 j2 p2 pos
    rw [Bool.or_eq_true] at h
    rcases h with h | h
    · split at h
      · rename_i i j
        unfold chkPar at h
        split at h
        · rename_i x px y py
          simp only [Bool.and_eq_true, decide_eq_true_eq, Bool.not_eq_true'] at h
          obtain ⟨⟨⟨⟨⟨⟨⟨⟨⟨⟨⟨⟨⟨⟨q1, q2⟩, q3⟩, q4⟩, q5⟩, q6⟩, q7⟩, q8⟩, q9⟩, q10⟩, q11⟩, q12⟩, q13⟩, q14⟩, q15⟩ := h
          have cal : X.calm = true := by rw [G.calm]; exact q9
          have hx : X.env.scope.names.lookup x = some .local := by rw [G.sc]; exact eq_of_beq q4
          have hy : X.env.scope.names.lookup y = some .local := by rw [G.sc]; exact eq_of_beq q5
          have pa : PA X [v1, v2] (tA X Φ (.cs e1 (.cs e2 .nl)) W) := c_cons q12 ((all Φ k e1).e G.toGood tk q14) (c_cons q13 ((all Φ k e2).e G.toGood tk q15) c_nil)
          refine PS.imp (ps_par cal (by rw [G.N]; exact G.nd) (by rw [G.N]; exact q1) (by rw [G.N]; exact q2) q3 hx hy pa (st_on G.sc q12 q13 q4 q5 q6 q7 q8 q10 q11) sw_tup) fun D σ H q => ?_
          obtain ⟨I, F, μ, ρ, E, hm, hs, s, ks⟩ := q
          refine ⟨I, F, μ, ρ, fun ds μ => match ds with
            | [d1, d2] => E.nx ((ρ.set i (some d1)).set j (some d2)) μ
            | _ => False, _, hm, hs, s, fun I1 H1 μ1 ds vs x1 m1 r1 n1 p1 => ?_, ks.kx hs⟩
          dsimp only at p1
          split at p1
          · obtain ⟨v, w, rfl, r2, r3⟩ := two_inv' r1
            exact ⟨v, w, rfl, ks.nx I1 H1 μ1 _ _ x1 m1 (((hs.mono x1).set r2).set r3) p1⟩
          · cases p1
        · cases h
      · cases h
    · unfold chkTwo at h
      simp only [Bool.and_eq_true] at h
      obtain ⟨⟨⟨⟨⟨⟨⟨q1, q2⟩, q3⟩, q4⟩, q5⟩, q6⟩, q7⟩, q8⟩ := h
      have cal : X.calm = true := by rw [G.calm]; exact q1
      have q4 : (([x1, x2].filterMap (swName S x1.pos.line)).length ≠ 2) ∨ [v1, v2].all (foldedForSure 8) = true := by
        rw [Bool.or_eq_true, decide_eq_true_eq] at q4
        exact q4
      have pa : PA X [v1, v2] (tA X Φ (.cs e1 (.cs e2 .nl)) W) := c_cons q2 ((all Φ k e1).e G.toGood tk q7) (c_cons q3 ((all Φ k e2).e G.toGood tk q8) c_nil)
      have pv : PE X (.Tuple [v1, v2] j2 p2) (tE X Φ (.tup (.cs e1 (.cs e2 .nl))) W) := c_tup (by show 2 ≤ 1000; decide) pa
      have pg : PG X (.Tuple [x1, x2] j1 p1) (gTup X.K 2 (gCons (gG X Φ t1 W) (gCons (gG X Φ t2 W) gNil))) :=
        pg_tup cal (pgs_cons (pgg_ok G.toGood tk q5) (pgs_cons (pgg_ok G.toGood tk q6) pgs_nil (by rw [each_one q6] <;> rfl)) (by rw [each_one q5] <;> rfl)) (by rw [each_one q5, each_one q6] <;> rfl) (by rw [each_one q5, each_one q6] <;> rfl)
      refine PS.imp (ps_asg pv pg sw_tup (st_off G.sc q2 q3 q4) rfl) fun D σ H q => ?_
      obtain ⟨I, F, μ, ρ, E, hm, hs, s, ks⟩ := q
      refine tE_mk (P := fun d μ2 => match d with
        | .tup [d1, d2] => semG Φ t1 d1 ρ μ2 (fun ρ1 μ3 => semG Φ t2 d2 ρ1 μ3 E.nx (fun x μ' => E.ex x ρ1 μ')) (fun x μ' => E.ex x ρ μ')
        | _ => False) hm hs s (ks.kx hs) fun I1 H1 μ1 d v x1 m1 s1 kx1 r1 p1 => ?_
      split at p1
      · obtain ⟨p, vs, rfl, hp, r1⟩ := r1
        obtain ⟨v, w, rfl, r2, r3⟩ := two_inv' r1
        refine ⟨p, [v, w], rfl, SqT.of (m1.sub _ _ hp), rfl, v, [w], rfl, ?_⟩
        refine gg_ok m1 s1 r2 p1 kx1 fun I2 H2 μ2 ρ2 σ2 x2 m2 s2 p2 => ?_
        refine ⟨w, [], rfl, gg_ok m2 s2 (Rep.mono x2 _ _ r3) p2 ((ks.mono (x1.trans x2)).kx s2) fun I3 H3 μ3 ρ3 σ3 x3 m3 s3 p3 => ⟨rfl, ?_⟩⟩
        exact ks.nx I3 H3 μ3 ρ3 σ3 ((x1.trans x2).trans x3) m3 s3 p3
      · cases p1
  · cases h

theorem forT_g {g : Mu → Prop} {bind : D → Rho → (Rho → Prop) → Prop} {body : Rho → Mu → End → Prop} {ds : List D} {ρ : Rho} {μ : Mu} {E : End} (h : forT g bind body ds ρ μ E) : g μ := by
  cases ds with
  | nil => exact h.1
  | cons _ _ => exact h.1
theorem for_ok {tg : List Nat} {tp : Bool} {it : IE} {b : IS} {D : Ends} {σ : L2.St} {H : Hp} (q : tS X Φ (.for tg tp it b) W D σ H) : tFor (tI X Φ it W) (gTgt X.K tg tp) (tS X Φ b W) D σ H := by
  obtain ⟨I, F, μ, ρ, E, hm, hs, s, ks⟩ := q
  refine ⟨I, F, μ, ρ, _, _, hm, hs, s, fun I1 H1 μ1 J ds g x1 m1 dw p1 => ?_, ks.kx hs⟩
  obtain ⟨n, GG, Y, wk, en, hG, hY⟩ := dw
  refine for_it wk (fun i σ' H' => ∃ I' μ' ρ', Ext I1 I' ∧ HM X.K X.mg H' I' F μ' ∧ Slots X.K X.mg I' ρ' σ' ∧ forT g (bindD tg tp) (fun ρ μ E => semS Φ b ρ μ E) (ds.drop i) ρ' μ' E)
    ⟨I1, μ1, ρ, Ext.refl I1, m1, hs.mono x1, p1⟩ (fun i σ' H' _ ⟨I', μ', ρ', x2, m2, _, t⟩ => hG _ _ _ _ x2 m2 (forT_g t)) (fun i x σ' H' H2 hi hP hy => ?_) (fun σ' H' ⟨I', μ', ρ', x2, m2, s2, t⟩ => ?_)
  · obtain ⟨I', μ', ρ', x2, m2, s2, t⟩ := hP
    obtain ⟨I2, d, e1, x3, m3, rd⟩ := hY i H' I' _ μ' x H2 x2 m2 (forT_g t) hi hy
    rw [drop_at e1] at t
    refine bind_ok m3 rd (s2.mono x3) t.2 fun ρ2 σ2 hb s3 _ => ?_
    refine ⟨I2, F, μ', ρ2, _, m3, s3, hb, (ks.mono ((x1.trans x2).trans x3)).loop fun I3 H3 μ3 ρ3 σ3 x4 m4 s4 t4 => ?_⟩
    exact ⟨I3, μ3, ρ3, (x2.trans x3).trans x4, m4, s4, t4⟩
  · rw [en, List.drop_length] at t
    exact ks.nx I' H' μ' ρ' σ' (x1.trans x2) m2 s2 t.2
theorem while_ok {c : IE} {b : IS} {D : Ends} {σ : L2.St} {H : Hp} (q : tS X Φ (.while c b) W D σ H) : tWhile (tT X Φ c W) (tS X Φ b W) D σ H := by
  obtain ⟨I, F, μ, ρ, E, hm, hs, ⟨V, ⟨m, w0⟩, s⟩, ks⟩ := q
  refine ⟨fun m σ' H' => ∃ I' μ' ρ', Ext I I' ∧ HM X.K X.mg H' I' F μ' ∧ Slots X.K X.mg I' ρ' σ' ∧ V m ρ' μ', ⟨m, I, μ, ρ, Ext.refl I, hm, hs, w0⟩, ?_⟩
  rintro m σ' H' ⟨I', μ', ρ', x1, m1, s1, w1⟩
  refine tT_mk m1 s1 (s m ρ' μ' w1) ((ks.mono x1).kx s1) fun I2 H2 μ2 k x2 m2 s2 kx2 p2 => ?_
  cases k with
  | false =>
    rw [if_neg Bool.false_ne_true]
    exact ks.nx I2 H2 μ2 ρ' σ' (x1.trans x2) m2 s2 p2
  | true =>
    rw [if_pos rfl]
    refine ⟨fun σ3 H3 => ∃ m', m' < m ∧ ∃ I' μ' ρ', Ext I I' ∧ HM X.K X.mg H3 I' F μ' ∧ Slots X.K X.mg I' ρ' σ3 ∧ V m' ρ' μ', fun _ _ h => h, ?_⟩
    refine ⟨I2, F, μ2, ρ', _, m2, s2, p2, (ks.mono (x1.trans x2)).loop fun I3 H3 μ3 ρ3 σ3 x3 m3 s3 ⟨m', hm', w'⟩ => ?_⟩
    exact ⟨m', hm', I3, μ3, ρ3, (x1.trans x2).trans x3, m3, s3, w'⟩
theorem nms_len : ∀ {is : List Nat} {es : List Expr}, chkTs S is es = true → es.length = is.length
  | [], [], _ => rfl
  | [], _ :: _, h => by cases h
  | _ :: _, [], h => by cases h
  | i :: is, e :: es, h => by
    cases e with
    | Name x p =>
      have h' : (locB S i x && chkTs S is es) = true := h
      rw [Bool.and_eq_true] at h'
      rw [List.length_cons, List.length_cons, nms_len h'.2]
    | _ => cases h
theorem name_ok (G : GoodS Φ k S X) {i : Option Nat} {n : Option Str} (h : nameB S i n = true) : nameOk X i n := by
  unfold nameB at h
  split at h
  · trivial
  · rw [Bool.and_eq_true, decide_eq_true_eq] at h
    exact ⟨by rw [G.N]; exact h.1, by show X.env.scope.names.lookup _ = _; rw [G.sc]; exact eq_of_beq h.2⟩
  · cases h
theorem good_tr (G : Good Φ k S X) {pn : List (Addr × Obj)} {xe : Value → Shared → Prop} : Good Φ k S (X.tr pn xe) := ⟨G.tab, G.N, G.sc, G.fn, G.nd, G.calm, G.room, G.xs⟩
theorem forP_ok {ts : List T2} {it : IE} {b : IS} {D : Ends} {σ : L2.St} {H : Hp} (q : tS X Φ (.forP ts it b) W D σ H) : tFor (tI X Φ it W) (gTup X.K ts.length (gT2s X.K ts)) (tS X Φ b W) D σ H := by
  obtain ⟨I, F, μ, ρ, E, hm, hs, s, ks⟩ := q
  refine ⟨I, F, μ, ρ, _, _, hm, hs, s, fun I1 H1 μ1 J ds g x1 m1 dw p1 => ?_, ks.kx hs⟩
  obtain ⟨n, GG, Y, wk, en, hG, hY⟩ := dw
  refine for_it wk (fun i σ' H' => ∃ I' μ' ρ', Ext I1 I' ∧ HM X.K X.mg H' I' F μ' ∧ Slots X.K X.mg I' ρ' σ' ∧ forT g (bind2 ts) (fun ρ μ E => semS Φ b ρ μ E) (ds.drop i) ρ' μ' E)
    ⟨I1, μ1, ρ, Ext.refl I1, m1, hs.mono x1, p1⟩ (fun i σ' H' _ ⟨I', μ', ρ', x2, m2, _, t⟩ => hG _ _ _ _ x2 m2 (forT_g t)) (fun i x σ' H' H2 hi hP hy => ?_) (fun σ' H' ⟨I', μ', ρ', x2, m2, s2, t⟩ => ?_)
  · obtain ⟨I', μ', ρ', x2, m2, s2, t⟩ := hP
    obtain ⟨I2, d, e1, x3, m3, rd⟩ := hY i H' I' _ μ' x H2 x2 m2 (forT_g t) hi hy
    rw [drop_at e1] at t
    refine bind2_ok m3 rd (s2.mono x3) t.2 fun ρ2 σ2 hb s3 => ?_
    refine ⟨I2, F, μ', ρ2, _, m3, s3, hb, (ks.mono ((x1.trans x2).trans x3)).loop fun I3 H3 μ3 ρ3 σ3 x4 m4 s4 t4 => ?_⟩
    exact ⟨I3, μ3, ρ3, (x2.trans x3).trans x4, m4, s4, t4⟩
  · rw [en, List.drop_length] at t
    exact ks.nx I' H' μ' ρ' σ' (x1.trans x2) m2 s2 t.2
theorem asgX_imp {i : Nat} {el it : IE} {tg own : List Nat} {tp : Bool} (hsub : sub1 tg own = true) {D : Ends} {σ : L2.St} {H : Hp} (q : tS X Φ (.asgX i el tg tp it own) W D σ H) :
    tLc (tI X Φ it W) (gTgt X.K tg tp) (tC' X Φ false .nl W0) (tE X Φ el (Wout W σ)) own σ H fun x H1 => gName i x σ H1 D.nx := by
  have hsub' : ∀ i ∈ tg, i ∈ own := fun i hi => of_decide_eq_true (List.all_eq_true.mp hsub i hi)
  obtain ⟨I, F, μ, ρ, E, hm, hs, s, ks⟩ := q
  refine ⟨I, F, μ, ρ, _, _, hm, hs, s, fun I1 H1 μ1 J ds g x1 m1 dw p1 => ?_, ks.kx hs⟩
  obtain ⟨hlen, tr⟩ := p1
  intro Dl hD
  obtain ⟨n, GG, Y, wk, en, hG, hY⟩ := dw
  have hF : F Dl = none := m1.fnone hD
  have wF : ∀ {o : HO}, ∀ a u, F a = some u → upd F Dl o a = some u := fun {o} a u e => by
    rw [upd_ne (ne_of_none e hF)]; exact e
  refine lc_it wk (PvC X.K X.mg I1 F Dl (fun l acc μ => turns (fun d acc μ2 K => bindD tg tp d (wipeD ρ own) fun ρ2 => semE Φ el ρ2 μ2 (fun y μ4 => K (acc ++ [y]) μ4) (fun x μ' => E.ex x ρ μ')) g l acc μ fun acc μ2 => E.nx (ρ.set i (some (.lst acc))) μ2) ds)
    ⟨I1, μ1, [], [], Ext.refl I1, m1.newF hD, rfl, Nat.le_refl _, tr⟩ (fun i H _ ⟨I', μ', acc, vs, x2, m2, _, _, t⟩ => hG _ _ _ _ x2 m2 (turns_g t)) (fun j x H H' hi hP hy => ?_) (fun H ⟨I', μ', acc, vs, x2, m2, r2, _, t⟩ => ?_)
  · obtain ⟨I', μ', acc, vs, x2, m2, r2, hl, t⟩ := hP
    obtain ⟨I2, d, e1, x3, m3, rd⟩ := hY j H I' _ μ' x H' x2 m2 (turns_g t) hi hy
    rw [drop_at e1] at t
    refine bind_ok m3 rd ((hs.mono ((x1.trans x2).trans x3)).wipe own) t.2 fun ρ2 σ2 hb s2 hw => ⟨by rw [hw own hsub', wipe_wipe fun _ h => h], ?_⟩
    refine tC_mk (hc := false) (P := fun b μ => b = true ∧ semE Φ el ρ2 μ (fun y μ4 => turns (fun d acc μ2 K => bindD tg tp d (wipeD ρ own) fun ρ2 => semE Φ el ρ2 μ2 (fun y μ4 => K (acc ++ [y]) μ4) (fun x μ' => E.ex x ρ μ')) g (ds.drop (j + 1)) (acc ++ [y]) μ4 fun acc μ2 => E.nx (ρ.set i (some (.lst acc))) μ2) (fun x μ' => E.ex x ρ μ')) m3 s2 ⟨rfl, hb⟩ kx_no fun I3 H3 μ3 b x4 m4 s3 _ p3 => ?_
    obtain ⟨rfl, p3⟩ := p3
    rw [if_pos rfl]
    have x34 := (x1.trans x2).trans (x3.trans x4)
    refine tE_mk m4 s3 p3 (fun y I' H' μ' cls dd x5 m5 xr ez => ks.ex y I' H' μ' ρ σ cls dd (x34.trans x5) (m5.weakF wF) (hs.mono (x34.trans x5)) xr ez) fun I4 H4 μ4 y v x5 m5 s4 _ r4 p4 => ?_
    have hl' : acc.length < sizeLine := Nat.lt_of_le_of_lt hl (Nat.lt_of_lt_of_le (by omega) (Nat.le_trans (en ▸ hlen) lim_le))
    have r5 := Reps.mono ((x3.trans x4).trans x5) _ _ r2
    refine ⟨vs, (m5.frm Dl _ upd_same).1, by rw [r5.length]; exact hl', I4, μ4, acc ++ [y], vs ++ [v], ((x2.trans x3).trans x4).trans x5, ?_, r5.append (.cons r4 .nil), by rw [List.length_append]; exact Nat.succ_le_succ hl, p4⟩
    have := m5.putF (o := .lst (vs ++ [v])) (p := Dl) upd_same
    rw [upd_upd] at this
    exact this
  · rw [en, List.drop_length] at t
    refine lc_end (Q := fun x H1 => gName i x σ H1 D.nx) (m := false) (R := fun d μ => E.nx (ρ.set i (some d)) μ) (ke := fun I' H' μ' d v x m r p => ?_) hF x2 m2 r2 t.2
    exact ks.nx I' H' μ' _ _ (x1.trans x) m ((hs.mono (x1.trans x)).set r) p
set_option maxHeartbeats 4000000 in
theorem allS (Φ : Md) (k : Nat) : ∀ is : IS, AllS Φ k is := by
  intro is
  induction is with
  | nop =>
    refine ⟨no_s fun _ _ => rfl, fun {S l X W} G tk h => ?_, no_h fun _ _ => rfl⟩
    unfold chkB at h
    split at h
    · exact PSs.imp pss_nil fun D σ H ⟨I, F, μ, ρ, E, hm, hs, s, ks⟩ => ks.nx I H μ ρ σ (Ext.refl I) hm hs s
    · cases h
  | sq a b iha ihb =>
    refine ⟨no_s fun _ _ => rfl, fun {S l X W} G tk h => ?_, no_h fun _ _ => rfl⟩
    unfold chkB at h
    split at h
    · rw [Bool.and_eq_true] at h
      refine PSs.imp (pss_cons (iha.s G tk h.1) (ihb.b G tk h.2)) fun D σ H ⟨I, F, μ, ρ, E, hm, hs, s, ks⟩ => ?_
      exact ⟨I, F, μ, ρ, _, hm, hs, s, ks.withNx fun I1 H1 μ1 ρ1 σ1 x1 m1 s1 p1 => ⟨I1, F, μ1, ρ1, E, m1, s1, p1, ks.mono x1⟩⟩
    · cases h
  | asg t e => exact ⟨fun G tk h => asg_ok G tk h, no_b fun _ _ => rfl, no_h fun _ _ => rfl⟩
  | asg2 t1 t2 e1 e2 => exact ⟨fun G tk h => asg2_ok G tk h, no_b fun _ _ => rfl, no_h fun _ _ => rfl⟩
  | unp tg e =>
    refine ⟨fun {S st X W} G tk h => ?_, no_b fun _ _ => rfl, no_h fun _ _ => rfl⟩
    unfold chkS at h
    split at h
    · simp only [Bool.and_eq_true] at h
      obtain ⟨⟨⟨h1, h2⟩, h3⟩, h4⟩ := h
      obtain ⟨e1, e2⟩ := nms_each (env := X.env) h2
      have pg : ∀ j p, PG X (.Tuple _ j p) (gTgt X.K tg true) := fun j p => pg_ok (tg := tg) (tp := true) G.toGood h1 h2
      refine PS.imp (ps_asg ((all Φ k e).e G.toGood tk h4) (pg _ _) sw_tup (st_tup h3) rfl) fun D σ H ⟨I, F, μ, ρ, E, hm, hs, s, ks⟩ => ?_
      refine tE_mk hm hs s (ks.kx hs) fun I1 H1 μ1 d v x1 m1 s1 kx1 r1 p1 => ?_
      exact bind_ok m1 r1 s1 p1 fun ρ2 σ2 p2 s2 _ => ks.nx I1 H1 μ1 ρ2 σ2 x1 m1 s2 p2
    · cases h
  | expr e =>
    refine ⟨fun {S st X W} G tk h => ?_, no_b fun _ _ => rfl, no_h fun _ _ => rfl⟩
    unfold chkS at h
    split at h
    · rw [Bool.and_eq_true] at h
      refine PS.imp (ps_expr ((all Φ k e).e G.toGood tk h.2) (sw_none h.1)) fun D σ H ⟨I, F, μ, ρ, E, hm, hs, s, ks⟩ => ?_
      exact tE_mk hm hs s (ks.kx hs) fun I1 H1 μ1 d v x1 m1 s1 kx1 r1 p1 => ks.nx I1 H1 μ1 ρ σ x1 m1 s1 p1
    · cases h
  | aug i o e => exact ⟨no_s fun _ _ => rfl, no_b fun _ _ => rfl, no_h fun _ _ => rfl⟩
  | ite c a b iha ihb =>
    refine ⟨fun {S st X W} G tk h => ?_, no_b fun _ _ => rfl, no_h fun _ _ => rfl⟩
    unfold chkS at h
    split at h
    · simp only [Bool.and_eq_true] at h
      refine PS.imp (ps_if ((all Φ k c).t G.toGood tk h.1.1) (iha.b G tk h.1.2) (ihb.b G tk h.2)) fun D σ H ⟨I, F, μ, ρ, E, hm, hs, s, ks⟩ => ?_
      refine tT_mk hm hs s (ks.kx hs) fun I1 H1 μ1 q x1 m1 s1 kx1 p1 => ?_
      cases q with
      | true => rw [if_pos rfl]; exact ⟨I1, F, μ1, ρ, E, m1, s1, p1, ks.mono x1⟩
      | false => rw [if_neg Bool.false_ne_true]; exact ⟨I1, F, μ1, ρ, E, m1, s1, p1, ks.mono x1⟩
    · cases h
  | «for» tg tp it b ihb =>
    refine ⟨fun {S st X W} G tk h => ?_, no_b fun _ _ => rfl, no_h fun _ _ => rfl⟩
    unfold chkS at h
    split at h
    · simp only [Bool.and_eq_true] at h
      obtain ⟨⟨⟨⟨⟨h1, h2⟩, h3⟩, h4⟩, h5⟩, h6⟩ := h
      have cal : X.calm = true := by rw [G.calm]; exact h1
      exact PS.imp (ps_for (G.pass h1) cal ((all Φ k it).i G.toGood tk h5 h3) (pg_ok G.toGood h1 h2) (ihb.b G tk h6) (fold_ok h4)) fun D σ H q => for_ok q
    · cases h
  | «while» c b ihb =>
    refine ⟨fun {S st X W} G tk h => ?_, no_b fun _ _ => rfl, no_h fun _ _ => rfl⟩
    unfold chkS at h
    split at h
    · simp only [Bool.and_eq_true] at h
      exact PS.imp (ps_while (G.pass h.1.1) ((all Φ k c).t G.toGood tk h.1.2) (ihb.b G tk h.2)) fun D σ H q => while_ok q
    · cases h
  | ret e =>
    refine ⟨fun {S st X W} G tk h => ?_, no_b fun _ _ => rfl, no_h fun _ _ => rfl⟩
    unfold chkS at h
    split at h
    · exact PS.imp (ps_ret ((all Φ k e).e G.toGood tk h)) fun D σ H ⟨I, F, μ, ρ, E, hm, hs, s, ks⟩ => ⟨I, F, μ, ρ, E.rt, _, hm, hs, s, ks.rt, ks.kx hs⟩
    · cases h
  | retN =>
    refine ⟨fun {S st X W} G tk h => ?_, no_b fun _ _ => rfl, no_h fun _ _ => rfl⟩
    unfold chkS at h
    split at h
    · exact PS.imp ps_retN fun D σ H ⟨I, F, μ, ρ, E, hm, hs, s, ks⟩ => val_ok hm ks.rt (d := .non) rfl s
    · cases h
  | brk =>
    refine ⟨fun {S st X W} G tk h => ?_, no_b fun _ _ => rfl, no_h fun _ _ => rfl⟩
    unfold chkS at h
    split at h
    · exact PS.imp ps_break fun D σ H ⟨I, F, μ, ρ, E, hm, hs, s, ks⟩ => ks.bk I H μ ρ σ (Ext.refl I) hm hs s
    · cases h
  | cont =>
    refine ⟨fun {S st X W} G tk h => ?_, no_b fun _ _ => rfl, no_h fun _ _ => rfl⟩
    unfold chkS at h
    split at h
    · exact PS.imp ps_continue fun D σ H ⟨I, F, μ, ρ, E, hm, hs, s, ks⟩ => ks.ct I H μ ρ σ (Ext.refl I) hm hs s
    · cases h
  | pass =>
    refine ⟨fun {S st X W} G tk h => ?_, no_b fun _ _ => rfl, no_h fun _ _ => rfl⟩
    unfold chkS at h
    split at h
    · exact PS.imp ps_pass fun D σ H ⟨I, F, μ, ρ, E, hm, hs, s, ks⟩ => ks.nx I H μ ρ σ (Ext.refl I) hm hs s
    · cases h
  | «raise» c =>
    refine ⟨fun {S st X W} G tk h => ?_, no_b fun _ _ => rfl, no_h fun _ _ => rfl⟩
    unfold chkS at h
    split at h
    · simp only [Bool.and_eq_true, decide_eq_true_eq] at h
      obtain ⟨⟨rfl, h1⟩, h2⟩ := h
      have cal : X.calm = true := by rw [G.calm]; exact h1
      obtain ⟨g1, g2⟩ := gl_ok G.toGood h2
      refine ⟨fun pins s σ H D J q => ?_⟩
      obtain ⟨I, F, μ, ρ, E, hm, hs, ⟨so, se⟩, ks⟩ := q
      obtain ⟨C, m1, m2, m3, m4, m5⟩ := G.tab.own _ so
      exact (ps_raise cal tk (pmk_own0 PySem.F.excBase_ValueError m2 m1 m3 (raises_own m4 m5) g1 g2)).run pins s σ H D J (ks.ex _ I H μ ρ σ _ _ (Ext.refl I) hm hs ⟨C, m1, rfl, .inl ⟨rfl, rfl⟩⟩ se)
    · cases h
  | «try» b h ihb ihh =>
    refine ⟨fun {S st X W} G tk h => ?_, no_b fun _ _ => rfl, no_h fun _ _ => rfl⟩
    unfold chkS at h
    split at h
    · rw [Bool.and_eq_true] at h
      obtain ⟨l, ok, cl⟩ := ihh.h G h.2
      refine PS.imp (ps_try_cls G.stk G.frm (by rw [G.N]; exact G.nd) tk (tb := fun W => tS X Φ b W) (fun W' pn xe tk' po => ihb.b (G.tr po) tk' h.1) ok) fun D σ H ⟨I, F, μ, ρ, E, hm, hs, s, ks⟩ => ?_
      refine ⟨I, F, μ, ρ, _, hm, hs, s, ⟨ks.nx, ks.bk, ks.ct, ks.rt, fun x I1 H1 μ1 ρ1 σ1 cls dd x1 m1 s1 xr sx => ?_⟩⟩
      exact cl m1 s1 xr sx (ks.mono x1)
    · cases h
  | hnil =>
    refine ⟨no_s fun _ _ => rfl, no_b fun _ _ => rfl, fun {S hs X} G h => ?_⟩
    unfold chkH at h
    split at h
    · exact ⟨[], .nil, fun {W D σ H I F μ ρ E x cls dd} m s xr se ks => ks.ex x I H μ ρ σ cls dd (Ext.refl I) m s xr se⟩
    · cases h
  | hcons c i s r ihs ihr =>
    refine ⟨no_s fun _ _ => rfl, no_b fun _ _ => rfl, fun {S hs X} G h => ?_⟩
    unfold chkH at h
    split at h
    · simp only [Bool.and_eq_true, decide_eq_true_eq] at h
      obtain ⟨⟨⟨⟨⟨rfl, h0⟩, h1⟩, h2⟩, h3⟩, h4⟩ := h
      obtain ⟨l, ok, cl⟩ := ihr.h G h4
      obtain ⟨g1, g2⟩ := gl_ok G.toGood h1
      obtain ⟨C, hC⟩ := G.xs _ h0
      refine ⟨⟨.ref C, i, fun _ _ _ => tS X Φ s W0⟩ :: l, .cons ⟨g1, g2, .inl hC⟩ (name_ok G h2) (fun a oe cls d pn _ _ => ihs.b G.suite (takes0 _) h3) ok, ?_⟩
      intro W D σ H I F μ ρ E x cls dd m sl xr se ks
      obtain ⟨q, hq, se⟩ := se
      obtain ⟨C1, C2, e1, e2, e3⟩ := G.tab.sub _ _ _ hq
      rw [hC] at e2
      cases e2
      obtain ⟨C3, f1, rfl, f2⟩ := id xr
      rw [e1] at f1
      cases f1
      refine ⟨q, e3, fun z => ?_, fun z => ?_⟩
      · subst z
        intro a na
        cases i with
        | none => exact ⟨I, F, μ, ρ, _, m, sl, se, ⟨ks.nx, ks.bk, ks.ct, ks.rt, fun _ _ _ _ _ _ _ _ _ _ _ _ z => z.elim⟩⟩
        | some i => exact ⟨I, F, μ, ρ.set i none, _, m, sl.setAny _, se, ⟨fun I1 H1 μ1 ρ1 σ1 x1 m1 s1 p1 => ks.nx I1 H1 μ1 _ _ x1 m1 (s1.setAny none) p1, fun I1 H1 μ1 ρ1 σ1 x1 m1 s1 p1 => ks.bk I1 H1 μ1 _ _ x1 m1 (s1.setAny none) p1, fun I1 H1 μ1 ρ1 σ1 x1 m1 s1 p1 => ks.ct I1 H1 μ1 _ _ x1 m1 (s1.setAny none) p1, ks.rt, fun _ _ _ _ _ _ _ _ _ _ _ _ z => z.elim⟩⟩
      · subst z
        exact cl m sl xr se ks
    · cases h
  | forP ts it b ihb =>
    refine ⟨fun {S st X W} G tk h => ?_, no_b fun _ _ => rfl, no_h fun _ _ => rfl⟩
    unfold chkS at h
    split at h
    · simp only [Bool.and_eq_true] at h
      obtain ⟨⟨⟨⟨⟨h1, h2⟩, h3⟩, h4⟩, h5⟩, h6⟩ := h
      have cal : X.calm = true := by rw [G.calm]; exact h1
      exact PS.imp (ps_for (G.pass h1) cal ((all Φ k it).i G.toGood tk h5 h3) (pgt_ok G.toGood h1 h2) (ihb.b G tk h6) (fold_ok h4)) fun D σ H q => forP_ok q
    · cases h
  | raise1 c e =>
    refine ⟨fun {S st X W} G tk h => ?_, no_b fun _ _ => rfl, no_h fun _ _ => rfl⟩
    unfold chkS at h
    split at h
    · simp only [Bool.and_eq_true, decide_eq_true_eq] at h
      obtain ⟨⟨⟨⟨rfl, h1⟩, h2⟩, h3⟩, h4⟩ := h
      have cal : X.calm = true := by rw [G.calm]; exact h1
      obtain ⟨g1, g2⟩ := gl_ok G.toGood h2
      have he := (all Φ k e).e G.toGood tk h4
      refine ⟨fun pins s σ H D J q => ?_⟩
      obtain ⟨I, F, μ, ρ, E, hm, hs, ⟨f, ho, se⟩, ks⟩ := q
      obtain ⟨⟨C, fI, fd, pr, gC, T, iC, tI, XC, nof, F1, b1⟩, hk⟩ := G.tab.own1 _ _ ho
      refine (ps_raise cal tk (pmk_oex (dvs := []) T iC tI F1 ((G.room h1).mono hk) b1 .nil pass0 g1 gC (c_cons h3 he c_nil) g2 (star_cons h3) rfl)).run pins s σ H D J ?_
      refine tA_mk hm hs (P := fun ds μ1 => match ds with
        | [d] => E.ex ⟨_, [(f, d)]⟩ ρ μ1
        | _ => False) se (ks.kx hs) fun I1 H1 μ1 ds vs x1 m1 s1 kx1 r1 n1 p1 => ?_
      split at p1
      · rename_i d
        obtain ⟨v, w, rfl, r2, r3⟩ := r1
        rw [show w = [] from r3]
        refine ⟨by show 1 ≤ 1000; decide, fun a ha => ⟨a, v, rfl, upd_same, fun dx hdx hne => ?_⟩⟩
        have h1x : H1 dx = none := by rw [upd_ne hne] at hdx; exact hdx
        refine ⟨rfl, dx, [(f, v)], upd_same, by rw [upd_ne hne, upd_same], h1x, ?_⟩
        have eh : upd (L2.del (upd (upd (upd H1 a (exo a C none)) dx (exd dx [(f, v)])) a (exo a C (some dx))) a) dx (.xd [(f, v)]) = upd H1 dx (.xd [(f, v)]) := by
          funext b
          by_cases hb : b = dx
          · subst hb; rw [upd_same, upd_same]
          · rw [upd_ne hb, upd_ne hb]
            by_cases ha' : b = a
            · subst ha'; rw [L2.del_same, ha]
            · rw [L2.del_ne ha', upd_ne ha', upd_ne hb, upd_ne ha']
        rw [eh]
        obtain ⟨m2, x2⟩ := m1.new (o := .xd [(f, v)]) h1x
        exact ks.ex _ _ _ μ1 ρ σ _ _ (x1.trans x2) m2 (s1.mono x2) ⟨C, gC, rfl, .inr ⟨f, d, dx, v, rfl, rfl, upd_same, Rep.mono x2 _ _ r2⟩⟩ p1
      · cases p1
    · cases h
  | asgX i el tg tp it own =>
    refine ⟨fun {S st X W} G tk h => ?_, no_b fun _ _ => rfl, no_h fun _ _ => rfl⟩
    unfold chkS at h
    split at h
    · rename_i n p' v p
      simp only [Bool.and_eq_true, decide_eq_true_eq] at h
      obtain ⟨⟨⟨hv, hw⟩, hn⟩, hl⟩ := h
      have hloc : X.env.scope.names.lookup n = some .local := by
        rw [G.sc]
        exact eq_of_beq hl
      have hsw : swapsWith v (some (.Name n p')) p.line X.env = pure true := by rw [sw_ok G.sc, hw]
      unfold chkLc at hv
      split at hv
      · simp only [Bool.and_eq_true, decide_eq_true_eq] at hv
        obtain ⟨⟨⟨⟨⟨⟨⟨⟨⟨rfl, h1⟩, h2⟩, h3⟩, h4⟩, h5⟩, h6⟩, h7⟩, h8⟩, h9⟩ := hv
        have cal : X.calm = true := by rw [G.calm]; exact h1
        refine PS.imp (ps_setLcX (te := fun W' => tE X Φ el W') (tt := tC' X Φ false .nl W0) (g := gTgt X.K tg tp) G.stk G.frm tk cal (by rw [G.N]; exact G.nd) (by rw [G.N]; exact hn) hloc hsw ((all Φ k it).i G.toGood tk h6 h7) (blkOk_by (by rw [G.N, G.sc]; exact h3)) (fun s H C cl fp => pg_ok (inner_good G.toGood s H C cl fp) h1 h5)
          (fun s H C cl fp => tests_ok (c := .nl) (inner_good G.toGood s H C cl fp) (takes0 _) (all Φ k .nl) h8)
          (fun s H C cl fp W' pn xe tk' => (all Φ k el).e (good_tr (inner_good G.toGood s H C cl fp)) tk' h9)
          (fold_ok h2)) fun D σ H q => ?_
        rw [ownOf_snd]
        exact asgX_imp h4 q
      · cases hv
    · cases h
  | hfld c i tag f r ihr =>
    refine ⟨no_s fun _ _ => rfl, no_b fun _ _ => rfl, fun {S hs X} G h => ?_⟩
    unfold chkH at h
    split at h
    · rename_i x np n t j1 p1 v vp g ap lp rp pos hs'
      simp only [Bool.and_eq_true, decide_eq_true_eq] at h
      obtain ⟨⟨⟨⟨⟨⟨⟨⟨rfl, h0⟩, h1⟩, h2⟩, rfl⟩, rfl⟩, rfl⟩, h6⟩, h4⟩ := h
      obtain ⟨l, ok, cl⟩ := ihr.h G h4
      obtain ⟨g1, g2⟩ := gl_ok G.toGood h1
      obtain ⟨C, hC⟩ := G.xs _ h0
      by_cases ho : Φ.own1 x = some g
      · obtain ⟨⟨C', fI, fd, pr, gC, T, iC, tI, XC, nof, F1, b1⟩, hk⟩ := G.tab.own1 _ _ ho
        rw [hC] at gC
        cases gC
        refine ⟨⟨.ref C, some i, fun a cls d => tRet (tLst (tCons (tC (.str t)) (tCons (tXf a cls d C g (tVar i)) tNil)))⟩ :: l, .cons ⟨g1, g2, .inl hC⟩ (name_ok G h2) (fun a oe cls d pn hz hf => ?_) ok, ?_⟩
        · obtain ⟨v1, v2, v3, v4⟩ := vis_ok (G.suite (a := a) (pn := (a, oe) :: pn)).toGood h6
          exact pss_one (ps_ret (pe_lst (pa_cons pe_str (pa_cons (pe_xf XC nof hz hf (pe_var v1 v2 v3 v4)) pa_nil))))
        · intro W D σ H I F μ ρ E xx cls dd m sl xr se ks
          obtain ⟨q, hq, se⟩ := se
          obtain ⟨C1, C2, e1, e2, e3⟩ := G.tab.sub _ _ _ hq
          rw [hC] at e2
          cases e2
          obtain ⟨C3, f1, rfl, f2⟩ := id xr
          rw [e1] at f1
          cases f1
          refine ⟨q, e3, fun z => ?_, fun z => ?_⟩
          · subst z
            intro a na
            obtain ⟨ex, _, hi, d, efs, se⟩ := se
            have hi' : i < σ.length := by rw [← sl.1]; exact hi
            rcases f2 with ⟨f2, _⟩ | ⟨f', e', dx, v', f2, f3, f4, f5⟩
            · rw [efs] at f2; cases f2
            · rw [efs] at f2
              cases f2
              rw [← ex, hC] at e1
              cases e1
              refine ⟨V.ref a, by show (σ.set i (some (V.ref a)))[i]? = _; rw [List.getElem?_set_self hi'], rfl, rfl, dx, _, v', f3, m.sub _ _ f4, by simp [List.lookup], ?_⟩
              refine ⟨by show 2 ≤ sizeLine; decide, fun p hp => ?_⟩
              obtain ⟨m2, x2⟩ := m.new (o := .lst [V.str t, v']) hp
              exact ks.rt _ _ μ (.lst [.str t, d]) _ x2 m2 ⟨p, _, rfl, upd_same, .cons rfl (.cons (Rep.mono x2 _ _ f5) .nil)⟩ se
          · subst z
            exact cl m sl xr se ks
      · refine ⟨⟨.ref C, some i, fun a cls d => tNever⟩ :: l, .cons ⟨g1, g2, .inl hC⟩ (name_ok G h2) (fun a oe cls d pn hz hf => pss_one ps_never) ok, ?_⟩
        intro W D σ H I F μ ρ E xx cls dd m sl xr se ks
        obtain ⟨q, hq, se⟩ := se
        obtain ⟨C1, C2, e1, e2, e3⟩ := G.tab.sub _ _ _ hq
        rw [hC] at e2
        cases e2
        obtain ⟨C3, f1, rfl, f2⟩ := id xr
        rw [e1] at f1
        cases f1
        refine ⟨q, e3, fun z => ?_, fun z => ?_⟩
        · subst z
          exact (ho se.2.1).elim
        · subst z
          exact cl m sl xr se ks
    · cases h
end
end PL
/-! PL12: what changes may stand still (fz); a def keeps its promise. -/
namespace PL
open PySem PySem.Spec PyProof.Rows L2 PySem.W

def Mu.cut (μ : Mu) (keep : Addr → Bool) : Mu := fun a => match keep a with
  | true => μ a
  | false => none
/-- d, the things of the store in it to a depth as they are; those that are kept stay -/
def fz (μ : Mu) (keep : Addr → Bool) : Nat → D → D
  | 0, d => d
  | n + 1, .ref a => match keep a with
    | true => .ref a
    | false => match μ a with
      | some (.lst ds) => .lst (ds.map (fz μ keep n))
      | some (.dK ks) => .dK (ks.map fun p => (p.1, fz μ keep n p.2))
      | none => .ref a
  | n + 1, .tup ds => .tup (ds.map (fz μ keep n))
  | n + 1, .lst ds => .lst (ds.map (fz μ keep n))
  | n + 1, d => d
section
variable {K : PySem.W.Frag} {mg : Str → Option Value} {H I F : Hp} {μ : Mu}
def frzH (H I : Hp) (μ : Mu) (keep : Addr → Bool) : Hp := fun a => match keep a, μ a with
  | false, some _ => H a
  | _, _ => I a
theorem frzH_none {keep : Addr → Bool} {a : Addr} (h : μ a = none) : frzH H I μ keep a = I a := by
  unfold frzH
  rw [h]
  cases keep a <;> rfl
theorem frzH_keep {keep : Addr → Bool} {a : Addr} (h : keep a = true) : frzH H I μ keep a = I a := by
  unfold frzH
  rw [h]
theorem frzH_some {keep : Addr → Bool} {a : Addr} {m : MO} (h : keep a = false) (e : μ a = some m) : frzH H I μ keep a = H a := by
  unfold frzH
  rw [h, e]
theorem HM.ext (h : HM K mg H I F μ) (keep : Addr → Bool) : Ext I (frzH H I μ keep) := Ext.of fun a o e => by
  have : μ a = none := by
    cases q : μ a with
    | none => rfl
    | some m =>
      rw [(h.muts _ _ q).1] at e
      cases e
  rw [frzH_none this]
  exact e
theorem HM.frz (h : HM K mg H I F μ) (keep : Addr → Bool) : HM K mg H (frzH H I μ keep) F (μ.cut keep) := by
  have x := h.ext keep
  refine ⟨fun a u e => ?_, fun a u e => ?_, fun a n e => ?_, h.ftup⟩
  · cases k : keep a with
    | true => rw [frzH_keep k] at e; exact h.sub _ _ e
    | false =>
      cases q : μ a with
      | none => rw [frzH_none q] at e; exact h.sub _ _ e
      | some m => rw [frzH_some k q] at e; exact e
  · obtain ⟨q1, q2, q3⟩ := h.frm _ _ e
    refine ⟨q1, by rw [frzH_none q3]; exact q2, ?_⟩
    unfold Mu.cut
    rw [q3]
    cases keep a <;> rfl
  · have e2 : (match keep a with
      | true => μ a
      | false => none) = some n := e
    cases k : keep a with
    | false => rw [k] at e2; cases e2
    | true =>
      rw [k] at e2
      obtain ⟨q1, u, q2, q3⟩ := h.muts _ _ e2
      exact ⟨by rw [frzH_keep k]; exact q1, u, q2, q3.mono x⟩
theorem reps_fz {I' : Hp} {g : D → D} (hg : ∀ d v, Rep K mg I d v → Rep K mg I' (g d) v) : ∀ {ds : List D} {vs : List V}, Reps K mg I ds vs → Reps K mg I' (ds.map g) vs
  | [], _, r => r
  | d :: ds, _, r => by
    obtain ⟨v, w, rfl, r1, r2⟩ := r
    exact .cons (hg _ _ r1) (reps_fz hg r2)
theorem repk_fz {I' : Hp} {g : D → D} (hg : ∀ d v, Rep K mg I d v → Rep K mg I' (g d) v) : ∀ {ds : List (Key × D)} {vs : List (Key × V)}, RepK K mg I ds vs → RepK K mg I' (ds.map fun p => (p.1, g p.2)) vs
  | [], _, r => r
  | (k, d) :: ds, _, r => by
    obtain ⟨v, w, rfl, r1, r2⟩ := r
    exact ⟨v, w, rfl, hg _ _ r1, repk_fz hg r2⟩
theorem HM.fz (h : HM K mg H I F μ) (keep : Addr → Bool) : ∀ (n : Nat) (d : D) (v : V), Rep K mg I d v → Rep K mg (frzH H I μ keep) (fz μ keep n d) v := by
  intro n
  induction n with
  | zero => exact fun d v r => Rep.mono (h.ext keep) d v r
  | succ n ih =>
    intro d v r
    cases d with
    | ref a =>
      show Rep K mg _ (match keep a with
        | true => D.ref a
        | false => match μ a with
          | some (.lst ds) => .lst (ds.map (PL.fz μ keep n))
          | some (.dK ks) => .dK (ks.map fun p => (p.1, PL.fz μ keep n p.2))
          | none => .ref a) v
      cases k : keep a with
      | true => exact r
      | false =>
        cases q : μ a with
        | none => exact r
        | some m =>
          obtain ⟨_, o, e1, e2⟩ := h.muts _ _ q
          have e3 : frzH H I μ keep a = some o := by rw [frzH_some k q]; exact e1
          cases m with
          | lst ds =>
            obtain ⟨vs, rfl, r2⟩ := e2
            exact ⟨a, vs, r, e3, reps_fz ih r2⟩
          | dK ks =>
            obtain ⟨ws, rfl, r2⟩ := e2
            exact ⟨a, ws, r, .inl e3, repk_fz ih r2⟩
    | tup ds =>
      obtain ⟨p, vs, e, hp, q⟩ := r
      exact ⟨p, vs, e, (h.ext keep).get hp, reps_fz ih q⟩
    | lst ds =>
      obtain ⟨p, vs, e, hp, q⟩ := r
      exact ⟨p, vs, e, (h.ext keep).get hp, reps_fz ih q⟩
    | _ => exact Rep.mono (h.ext keep) _ v r
end
/-- what a def's end wishes -/
def dEnd (R : RD) (X : RX) : End where
  nx := fun _ μ => ∃ keep, R .non (μ.cut keep)
  rt := fun d μ => ∃ keep n, R (fz μ keep n d) (μ.cut keep)
  ex := fun x _ μ => ∃ keep, X x (μ.cut keep)
def startD (n : Nat) (ds : List D) : Rho := ds.map some ++ List.replicate (n - ds.length) none
theorem start_ok {K : PySem.W.Frag} {mg : Str → Option Value} {I : Hp} {N : List Str} {ds : List D} {vs : List V} (r : Reps K mg I ds vs) : Slots K mg I (startD N.length ds) (L2.start N vs) := by
  refine ⟨?_, fun i d e => ?_⟩
  · simp [startD, L2.start, r.length]
  · unfold startD at e
    by_cases hi : i < ds.length
    · rw [List.getElem?_append_left (by simpa using hi), List.getElem?_map] at e
      cases q : ds[i]? with
      | none => rw [q] at e; cases e
      | some d' =>
        rw [q] at e
        cases e
        obtain ⟨v, e1, r1⟩ := r.at q
        refine ⟨v, ?_, r1⟩
        have hi' : i < vs.length := by rw [r.length]; exact hi
        unfold L2.start
        rw [List.getElem?_append_left (by simpa using hi'), List.getElem?_map, e1] <;> rfl
    · rw [List.getElem?_append_right (by simpa using hi), List.getElem?_replicate] at e
      split at e <;> cases e
section
variable {P : Program} {w : World} {K : PySem.W.Frag} {mg : Str → Option Value} {base : Heap} {Φ : Md} {k : Nat} {x qual : Str} {params : Arguments} {body : List Stmt} {scope : Scope} {kws : List (Str × V)} {f : Addr} {fd : FuncData} {N ps xs : List Str} {is : IS} {sd : DSp}
/-- a def keeps its promise -/
theorem def_ok (F : FunD K x qual params body scope [] kws f fd) (FS : FnScope N ps scope) (T : Tab P w K mg base Φ k) (hx : ∀ c, c ∈ xs → ∃ C, mg c = some (.ref C)) (hn : sd.n = ps.length)
    (ck : chkB is ⟨N, scope, none, true, xs⟩ body = true) (mean : ∀ ds μ R X, sd.sp ds μ R X → semS Φ is (startD N.length ds) μ (dEnd R X)) : FnOk P w K mg base (L2.CX P w) (k + 1) f fd ps (spOf K mg sd) := by
  refine F.ok FS (fun vs H Q E h => by rw [spOf_len h, hn]) fun cdv A outer s H vs Q E hr h => ?_
  obtain ⟨I, F', μ, ds, R, XX, hm, r, sp, ke, kx⟩ := h
  have G : GoodS Φ k ⟨N, scope, none, true, xs⟩ (cxOf (L2.CX P w) P w K mg base N qual scope f cdv A outer s H E) :=
    ⟨⟨T, rfl, rfl, rfl, FS.nd, rfl, fun _ => hr, hx⟩, rfl, rfl, fun _ => passes_of rfl⟩
  refine ⟨_, (allS Φ k is).b (W := fun cls d _ H => E cls d H) G (takes_of rfl rfl rfl rfl) ck, ?_⟩
  refine ⟨I, F', μ, startD N.length ds, dEnd R XX, hm, start_ok r, mean ds μ R XX sp, ⟨fun I1 H1 μ1 ρ1 σ1 x1 m1 s1 ⟨keep, p1⟩ => ?_, fun _ _ _ _ _ _ _ _ z => z.elim, fun _ _ _ _ _ _ _ _ z => z.elim, fun I1 H1 μ1 d v x1 m1 r1 ⟨keep, n, p1⟩ => ?_, fun y I1 H1 μ1 ρ1 σ1 cls dd x1 m1 s1 xr ⟨keep, p1⟩ => ?_⟩⟩
  · exact ke _ H1 _ .non _ (x1.trans (m1.ext keep)) (m1.frz keep) rfl p1
  · exact ke _ H1 _ _ v (x1.trans (m1.ext keep)) (m1.frz keep) (m1.fz keep n d v r1) p1
  · exact kx y _ H1 _ cls dd (x1.trans (m1.ext keep)) (m1.frz keep) (xr.mono (m1.ext keep)) p1
def Md.add (Φ : Md) (x : Str) (s : DSp) : Md := { Φ with fns := fun y => if y = x then some s else Φ.fns y }
theorem Tab.add (T : Tab P w K mg base Φ k) {s : DSp} (F : FnOk P w K mg base (L2.CX P w) (k + 1) f fd ps (spOf K mg s)) (hb : Binds K fd ps []) (hm : mg x = some (.ref f)) (hk : PySem.W.keepIn K (.ref f) = true) : Tab P w K mg base (Φ.add x s) (k + 1) := by
  refine ⟨fun y t e => ?_, T.nums, T.free, T.sub, T.own, T.txs, fun c f e => ⟨(T.own1 c f e).1, Nat.le_succ_of_le (T.own1 c f e).2⟩⟩
  have e : (if y = x then some s else Φ.fns y) = some t := e
  split at e
  · rename_i q
    cases e
    subst q
    exact ⟨f, fd, ps, F, hb, hm, hk⟩
  · obtain ⟨f', fd', ps', F', hb', hm', hk'⟩ := T.fns y t e
    exact ⟨f', fd', ps', F'.mono (Nat.le_succ k), hb', hm', hk'⟩
end
end PL
/-! PL13: promises by arity; loops by invariants. -/
namespace PL
open PySem PySem.Spec PyProof.Rows L2 PySem.W

def sp1 (f : D → Mu → RD → RX → Prop) : DSp := ⟨1, fun ds μ R X => match ds with
  | [a] => f a μ R X
  | _ => False, fun ds μ R X h => by
    split at h
    · rfl
    · exact h.elim⟩
def sp2 (f : D → D → Mu → RD → RX → Prop) : DSp := ⟨2, fun ds μ R X => match ds with
  | [a, b] => f a b μ R X
  | _ => False, fun ds μ R X h => by
    split at h
    · rfl
    · exact h.elim⟩
def sp3 (f : D → D → D → Mu → RD → RX → Prop) : DSp := ⟨3, fun ds μ R X => match ds with
  | [a, b, c] => f a b c μ R X
  | _ => False, fun ds μ R X h => by
    split at h
    · rfl
    · exact h.elim⟩
theorem sp1_sp {f : D → Mu → RD → RX → Prop} {a : D} {μ : Mu} {R : RD} {X : RX} : (sp1 f).sp [a] μ R X = f a μ R X := rfl
theorem sp2_sp {f : D → D → Mu → RD → RX → Prop} {a b : D} {μ : Mu} {R : RD} {X : RX} : (sp2 f).sp [a, b] μ R X = f a b μ R X := rfl
theorem sp3_sp {f : D → D → D → Mu → RD → RX → Prop} {a b c : D} {μ : Mu} {R : RD} {X : RX} : (sp3 f).sp [a, b, c] μ R X = f a b c μ R X := rfl
theorem mean1 {Φ : Md} {is : IS} {n : Nat} {f : D → Mu → RD → RX → Prop} (h : ∀ a μ R X, f a μ R X → semS Φ is (startD n [a]) μ (dEnd R X)) : ∀ ds μ R X, (sp1 f).sp ds μ R X → semS Φ is (startD n ds) μ (dEnd R X) := fun ds μ R X q => by
  match ds, q with
  | [a], q => exact h a μ R X q
theorem mean2 {Φ : Md} {is : IS} {n : Nat} {f : D → D → Mu → RD → RX → Prop} (h : ∀ a b μ R X, f a b μ R X → semS Φ is (startD n [a, b]) μ (dEnd R X)) : ∀ ds μ R X, (sp2 f).sp ds μ R X → semS Φ is (startD n ds) μ (dEnd R X) := fun ds μ R X q => by
  match ds, q with
  | [a, b], q => exact h a b μ R X q
theorem mean3 {Φ : Md} {is : IS} {n : Nat} {f : D → D → D → Mu → RD → RX → Prop} (h : ∀ a b c μ R X, f a b c μ R X → semS Φ is (startD n [a, b, c]) μ (dEnd R X)) : ∀ ds μ R X, (sp3 f).sp ds μ R X → semS Φ is (startD n ds) μ (dEnd R X) := fun ds μ R X q => by
  match ds, q with
  | [a, b, c], q => exact h a b c μ R X q
theorem ret0 {R : RD} {X : RX} {d : D} {μ : Mu} (h : R d μ) : (dEnd R X).rt d μ := ⟨fun _ => true, 0, h⟩
/-! ### loops -/
theorem turns_inv {body : D → List D → Mu → (List D → Mu → Prop) → Prop} {g : Mu → Prop} {R : List D → Mu → Prop} (P : Nat → List D → Mu → Prop) : ∀ {ds all : List D} {j : Nat} {acc : List D} {μ : Mu}, all.drop j = ds → j ≤ all.length → P j acc μ →
    (∀ i acc μ, i ≤ all.length → P i acc μ → g μ) → (∀ i d acc μ K, all[i]? = some d → P i acc μ → (∀ acc' μ', P (i + 1) acc' μ' → K acc' μ') → body d acc μ K) → (∀ acc μ, P all.length acc μ → R acc μ) → turns body g ds acc μ R
  | [], all, j, acc, μ, e, hj, h0, hg, hb, he => by
    have : j = all.length := by
      have h1 := congrArg List.length e
      simp at h1
      omega
    subst this
    exact ⟨hg _ _ _ (Nat.le_refl _) h0, he _ _ h0⟩
  | d :: ds, all, j, acc, μ, e, hj, h0, hg, hb, he => by
    have hl : j < all.length := by
      have h1 := congrArg List.length e
      simp at h1
      omega
    have e1 : all[j]? = some d := by
      have : (all.drop j)[0]? = some d := by rw [e] <;> rfl
      simpa using this
    have e2 : all.drop (j + 1) = ds := by
      have : (all.drop j).drop 1 = ds := by rw [e] <;> rfl
      rw [List.drop_drop] at this
      exact this
    exact ⟨hg _ _ _ hj h0, hb j d acc μ _ e1 h0 fun acc' μ' p => turns_inv P e2 hl p hg hb he⟩
theorem turns_by {body : D → List D → Mu → (List D → Mu → Prop) → Prop} {g : Mu → Prop} {ds acc : List D} {μ : Mu} {R : List D → Mu → Prop} (P : Nat → List D → Mu → Prop) (h0 : P 0 acc μ) (hg : ∀ i acc μ, i ≤ ds.length → P i acc μ → g μ)
    (hb : ∀ i d acc μ K, ds[i]? = some d → P i acc μ → (∀ acc' μ', P (i + 1) acc' μ' → K acc' μ') → body d acc μ K) (he : ∀ acc μ, P ds.length acc μ → R acc μ) : turns body g ds acc μ R := turns_inv P (all := ds) (j := 0) rfl (Nat.zero_le _) h0 hg hb he
/-- each item gives one, the store as it is -/
theorem turns_map {body : D → List D → Mu → (List D → Mu → Prop) → Prop} {g : Mu → Prop} {ds acc : List D} {μ : Mu} {R : List D → Mu → Prop} (f : D → D) (hg : g μ) (hb : ∀ d, d ∈ ds → ∀ acc (K : List D → Mu → Prop), K (acc ++ [f d]) μ → body d acc μ K) (he : R (acc ++ ds.map f) μ) : turns body g ds acc μ R := by
  refine turns_by (fun i a m => m = μ ∧ a = acc ++ (ds.take i).map f) ⟨rfl, by simp⟩ (fun i a m _ h => by rw [h.1]; exact hg) (fun i d a m K hd h k => ?_) (fun a m h => by rw [h.1, h.2, List.take_length]; exact he)
  obtain ⟨rfl, rfl⟩ := h
  refine hb d (List.mem_of_getElem? hd) _ K (k _ _ ⟨rfl, ?_⟩)
  rw [List.take_succ, hd]
  simp
/-- each item gives one or none -/
theorem turns_filter {body : D → List D → Mu → (List D → Mu → Prop) → Prop} {g : Mu → Prop} {ds acc : List D} {μ : Mu} {R : List D → Mu → Prop} (f : D → Option D) (hg : g μ) (hb : ∀ d, d ∈ ds → ∀ acc (K : List D → Mu → Prop), K (acc ++ (f d).toList) μ → body d acc μ K) (he : R (acc ++ ds.filterMap f) μ) : turns body g ds acc μ R := by
  refine turns_by (fun i a m => m = μ ∧ a = acc ++ (ds.take i).filterMap f) ⟨rfl, by simp⟩ (fun i a m _ h => by rw [h.1]; exact hg) (fun i d a m K hd h k => ?_) (fun a m h => by rw [h.1, h.2, List.take_length]; exact he)
  obtain ⟨rfl, rfl⟩ := h
  refine hb d (List.mem_of_getElem? hd) _ K (k _ _ ⟨rfl, ?_⟩)
  rw [List.take_succ, hd, List.filterMap_append, List.append_assoc]
  cases e : f d <;> simp [e]
theorem forT_inv {g : Mu → Prop} {bind : D → Rho → (Rho → Prop) → Prop} {body : Rho → Mu → End → Prop} {E : End} (P : Nat → Rho → Mu → Prop) : ∀ {ds all : List D} {j : Nat} {ρ : Rho} {μ : Mu}, all.drop j = ds → j ≤ all.length → P j ρ μ →
    (∀ i ρ μ, i ≤ all.length → P i ρ μ → g μ) → (∀ i d ρ μ (N : Rho → Mu → Prop), all[i]? = some d → P i ρ μ → (∀ ρ' μ', P (i + 1) ρ' μ' → N ρ' μ') → bind d ρ fun ρ1 => body ρ1 μ { E with nx := N, ct := N, bk := E.nx }) → (∀ ρ μ, P all.length ρ μ → E.nx ρ μ) → forT g bind body ds ρ μ E
  | [], all, j, ρ, μ, e, hj, h0, hg, hb, he => by
    have : j = all.length := by
      have h1 := congrArg List.length e
      simp at h1
      omega
    subst this
    exact ⟨hg _ _ _ (Nat.le_refl _) h0, he _ _ h0⟩
  | d :: ds, all, j, ρ, μ, e, hj, h0, hg, hb, he => by
    have hl : j < all.length := by
      have h1 := congrArg List.length e
      simp at h1
      omega
    have e1 : all[j]? = some d := by
      have : (all.drop j)[0]? = some d := by rw [e] <;> rfl
      simpa using this
    have e2 : all.drop (j + 1) = ds := by
      have : (all.drop j).drop 1 = ds := by rw [e] <;> rfl
      rw [List.drop_drop] at this
      exact this
    exact ⟨hg _ _ _ hj h0, hb j d ρ μ _ e1 h0 fun ρ' μ' p => forT_inv P e2 hl p hg hb he⟩
theorem forT_by {g : Mu → Prop} {bind : D → Rho → (Rho → Prop) → Prop} {body : Rho → Mu → End → Prop} {E : End} {ds : List D} {ρ : Rho} {μ : Mu} (P : Nat → Rho → Mu → Prop) (h0 : P 0 ρ μ) (hg : ∀ i ρ μ, i ≤ ds.length → P i ρ μ → g μ)
    (hb : ∀ i d ρ μ (N : Rho → Mu → Prop), ds[i]? = some d → P i ρ μ → (∀ ρ' μ', P (i + 1) ρ' μ' → N ρ' μ') → bind d ρ fun ρ1 => body ρ1 μ { E with nx := N, ct := N, bk := E.nx }) (he : ∀ ρ μ, P ds.length ρ μ → E.nx ρ μ) : forT g bind body ds ρ μ E :=
  forT_inv P (all := ds) (j := 0) rfl (Nat.zero_le _) h0 hg hb he
end PL
/-! PL14: expressions that only tell. -/
namespace PL
open PySem PySem.Spec PyProof.Rows L2 PySem.W

def ev (Φ : Md) (e : IE) (ρ : Rho) (μ : Mu) (d : D) : Prop := ∀ R X, R d μ → semE Φ e ρ μ R X
def evT (Φ : Md) (e : IE) (ρ : Rho) (μ : Mu) (b : Bool) : Prop := ∀ (R : Bool → Mu → Prop) X, R b μ → semT Φ e ρ μ R X
def evA (Φ : Md) (e : IE) (ρ : Rho) (μ : Mu) (ds : List D) : Prop := ∀ (R : List D → Mu → Prop) X, R ds μ → semA Φ e ρ μ R X
def evO (Φ : Md) (e : IE) (ρ : Rho) (μ : Mu) (d : Option Int) : Prop := ∀ (R : Option Int → Mu → Prop) X, R d μ → semO Φ e ρ μ R X
/-- a source whose items stay -/
def evI (Φ : Md) (e : IE) (ρ : Rho) (μ : Mu) (ds : List D) : Prop := ∀ (R : RI) X, (∀ g : Mu → Prop, g μ → R ds g μ) → semI Φ e ρ μ R X
section
variable {Φ : Md} {ρ : Rho} {μ : Mu} {a b c : IE}
theorem ev_var {i : Nat} {d : D} (h : ρ[i]? = some (some d)) : ev Φ (.var i) ρ μ d := fun R X k => ⟨d, h, k⟩
theorem ev_int {n : Int} : ev Φ (.int n) ρ μ (.int n) := fun R X k => k
theorem ev_str {n : Str} : ev Φ (.str n) ρ μ (.str n) := fun R X k => k
theorem ev_bl {n : Bool} : ev Φ (.bl n) ρ μ (.bl n) := fun R X k => k
theorem ev_non : ev Φ .non ρ μ .non := fun R X k => k
theorem ev_glob {x : Str} {n : Int} (h : Φ.nums x = some n) : ev Φ (.glob x) ρ μ (.int n) := fun R X k => ⟨n, h, k⟩
theorem ev_fnv {x : Str} (h : (Φ.fns x).isSome = true) : ev Φ (.fnv x) ρ μ (.fn x) := fun R X k => ⟨h, k⟩
theorem evA_nl : evA Φ .nl ρ μ [] := fun R X k => k
theorem evA_cs {d : D} {ds : List D} (h : ev Φ a ρ μ d) (t : evA Φ b ρ μ ds) : evA Φ (.cs a b) ρ μ (d :: ds) := fun R X k => h _ _ (t _ _ k)
theorem ev_tup {ds : List D} (h : evA Φ a ρ μ ds) : ev Φ (.tup a) ρ μ (.tup ds) := fun R X k => h _ _ k
theorem ev_lst {ds : List D} (h : evA Φ a ρ μ ds) : ev Φ (.lst false a) ρ μ (.lst ds) := fun R X k => h _ _ k
theorem ev_add {i j : Int} {m : Bool} (h : ev Φ a ρ μ (.int i)) (k : ev Φ b ρ μ (.int j)) : ev Φ (.bin .add m a b) ρ μ (.int (i + j)) := fun R X q => h _ _ (k _ _ q)
theorem ev_sub {i j : Int} {m : Bool} (h : ev Φ a ρ μ (.int i)) (k : ev Φ b ρ μ (.int j)) : ev Φ (.bin .sub m a b) ρ μ (.int (i - j)) := fun R X q => h _ _ (k _ _ q)
theorem ev_and {p q : Bool} (h : ev Φ a ρ μ (.bl p)) (k : p = true → ev Φ b ρ μ (.bl q)) : ev Φ (.and a b) ρ μ (.bl (p && q)) := fun R X z => h _ _ ⟨p, rfl, by
  cases p with
  | true => exact k rfl _ _ z
  | false => exact z⟩
theorem ev_or {p q : Bool} (h : ev Φ a ρ μ (.bl p)) (k : p = false → ev Φ b ρ μ (.bl q)) : ev Φ (.or a b) ρ μ (.bl (p || q)) := fun R X z => h _ _ ⟨p, rfl, by
  cases p with
  | false => exact k rfl _ _ z
  | true => exact z⟩
theorem ev_not {p : Bool} (h : ev Φ a ρ μ (.bl p)) : ev Φ (.not a) ρ μ (.bl (!p)) := fun R X z => h _ _ ⟨p, rfl, z⟩
theorem ev_neg {i : Int} (h : ev Φ a ρ μ (.int i)) : ev Φ (.neg a) ρ μ (.int (-i)) := fun R X z => h _ _ ⟨i, rfl, z⟩
theorem evT_and {p q : Bool} (h : evT Φ a ρ μ p) (k : p = true → evT Φ b ρ μ q) : evT Φ (.and a b) ρ μ (p && q) := fun R X z => h _ _ (by
  cases p with
  | true => exact k rfl _ _ z
  | false => exact z)
theorem evT_or {p q : Bool} (h : evT Φ a ρ μ p) (k : p = false → evT Φ b ρ μ q) : evT Φ (.or a b) ρ μ (p || q) := fun R X z => h _ _ (by
  cases p with
  | false => exact k rfl _ _ z
  | true => exact z)
theorem evT_not {p : Bool} (h : evT Φ a ρ μ p) : evT Φ (.not a) ρ μ (!p) := fun R X z => h _ _ z
/-- a comparison by its operator -/
theorem ev_cmp {o : COp} {x y : D} {p : Bool} (h : ev Φ a ρ μ x) (k : ev Φ b ρ μ y) (q : ∀ R : Bool → Prop, R p → opCmp o x y μ R) : ev Φ (.cmp o a b) ρ μ (.bl p) := fun R X z => h _ _ (k _ _ (q _ z))
theorem evT_cmp {o : COp} {x y : D} {p : Bool} (h : ev Φ a ρ μ x) (k : ev Φ b ρ μ y) (q : ∀ R : Bool → Prop, R p → opCmp o x y μ R) : evT Φ (.cmp o a b) ρ μ p := fun R X z => h _ _ (k _ _ (q _ z))
theorem ev_chain {o1 o2 : COp} {x y w : D} {p q : Bool} (h : ev Φ a ρ μ x) (k : ev Φ b ρ μ y) (l : ev Φ c ρ μ w) (h1 : ∀ R : Bool → Prop, R p → opCmp o1 x y μ R) (h2 : p = true → ∀ R : Bool → Prop, R q → opCmp o2 y w μ R) : ev Φ (.chain o1 o2 a b c) ρ μ (.bl (p && q)) := fun R X z =>
  h _ _ (k _ _ (h1 _ (by
    cases p with
    | true => exact l _ _ (h2 rfl _ z)
    | false => exact z)))
theorem ev_chain3 {d : IE} {o1 o2 o3 : COp} {x y w u : D} {p q r : Bool} (h : ev Φ a ρ μ x) (k : ev Φ b ρ μ y) (l : ev Φ c ρ μ w) (m : ev Φ d ρ μ u) (h1 : ∀ R : Bool → Prop, R p → opCmp o1 x y μ R) (h2 : p = true → ∀ R : Bool → Prop, R q → opCmp o2 y w μ R) (h3 : p = true → q = true → ∀ R : Bool → Prop, R r → opCmp o3 w u μ R) : ev Φ (.chain3 o1 o2 o3 a b c d) ρ μ (.bl (p && (q && r))) := fun R X z =>
  h _ _ (k _ _ (h1 _ (by
    cases p with
    | true => exact l _ _ (h2 rfl _ (by
      cases q with
      | true => exact m _ _ (h3 rfl rfl _ z)
      | false => exact z))
    | false => exact z)))
theorem ev_ite {p : Bool} {d : D} (h : evT Φ a ρ μ p) (k1 : p = true → ev Φ b ρ μ d) (k2 : p = false → ev Φ c ρ μ d) : ev Φ (.ite a b c) ρ μ d := fun R X z => h _ _ (by
  cases p with
  | true => exact k1 rfl _ _ z
  | false => exact k2 rfl _ _ z)
theorem evT_ite {p q : Bool} (h : evT Φ a ρ μ p) (k1 : p = true → evT Φ b ρ μ q) (k2 : p = false → evT Φ c ρ μ q) : evT Φ (.ite a b c) ρ μ q := fun R X z => h _ _ (by
  cases p with
  | true => exact k1 rfl _ _ z
  | false => exact k2 rfl _ _ z)
theorem evT_var {i : Nat} {p : Bool} (h : ρ[i]? = some (some (.bl p))) : evT Φ (.var i) ρ μ p := fun R X z => ⟨_, h, z⟩
theorem ev_idx {x d : D} {xs : List D} {i : Int} (h : ev Φ a ρ μ x) (k : ev Φ b ρ μ (.int i)) (e : items μ x = some xs) (q : atI xs i = some d) : ev Φ (.idx a b) ρ μ d := fun R X z => h _ _ (k _ _ (.inl ⟨xs, i, d, e, rfl, q, z⟩))
theorem ev_idxN {x d : D} {xs : List D} {i : Int} {n : Nat} (h : ev Φ a ρ μ x) (k : ev Φ b ρ μ (.int i)) (e : items μ x = some xs) (hi : i = ((n : Nat) : Int)) (q : xs[n]? = some d) : ev Φ (.idx a b) ρ μ d := by
  subst hi
  refine ev_idx h k e ?_
  have hl : n < xs.length := by
    obtain ⟨hl, _⟩ := List.getElem?_eq_some_iff.mp q
    exact hl
  show (ixN xs.length n).bind (fun j => xs[j]?) = some d
  have : ixN xs.length (n : Int) = some n := by
    unfold ixN
    rw [if_pos (Int.natCast_nonneg n), if_pos (by omega)]
    simp
  rw [this]
  exact q
theorem evT_idx {p : Bool} (h : ev Φ (.idx a b) ρ μ (.bl p)) : evT Φ (.idx a b) ρ μ p := fun R X z => h (fun x μ2 => truth x μ2 fun k => R k μ2) X z
theorem ev_bi {o : Bi} {m : Bool} {ds : List D} {d : D} (h : evA Φ a ρ μ ds) (q : ∀ R : RD, R d μ → opBi o m ds μ R) : ev Φ (.bi o m a) ρ μ d := fun R X z => h _ _ (q _ z)
theorem evT_bi {o : Bi} {m : Bool} {ds : List D} {p : Bool} (h : evA Φ a ρ μ ds) (q : ∀ R : RD, R (.bl p) μ → opBi o m ds μ R) : evT Φ (.bi o m a) ρ μ p := fun R X z => h _ _ (q (fun x μ2 => truth x μ2 fun k => R k μ2) z)
theorem ev_len {m : Bool} {x : D} {xs : List D} (h : ev Φ a ρ μ x) (e : items μ x = some xs) : ev Φ (.bi .len m (.cs a .nl)) ρ μ (.int xs.length) := ev_bi (evA_cs h evA_nl) fun R z => .inl ⟨xs, e, z⟩
theorem ev_all {m : Bool} {bs : List Bool} (h : ev Φ a ρ μ (.lst (bs.map D.bl))) : ev Φ (.bi .all m (.cs a .nl)) ρ μ (.bl (bs.all id)) := ev_bi (evA_cs h evA_nl) fun R z => ⟨bs, rfl, z⟩
theorem ev_any {m : Bool} {bs : List Bool} (h : ev Φ a ρ μ (.lst (bs.map D.bl))) : ev Φ (.bi .any m (.cs a .nl)) ρ μ (.bl (bs.any id)) := ev_bi (evA_cs h evA_nl) fun R z => ⟨bs, rfl, z⟩
theorem evT_all {m : Bool} {bs : List Bool} (h : ev Φ a ρ μ (.lst (bs.map D.bl))) : evT Φ (.bi .all m (.cs a .nl)) ρ μ (bs.all id) := evT_bi (evA_cs h evA_nl) fun R z => ⟨bs, rfl, z⟩
theorem evT_any {m : Bool} {bs : List Bool} (h : ev Φ a ρ μ (.lst (bs.map D.bl))) : evT Φ (.bi .any m (.cs a .nl)) ρ μ (bs.any id) := evT_bi (evA_cs h evA_nl) fun R z => ⟨bs, rfl, z⟩
theorem ev_inst {x : D} {t : Ty} (h : ev Φ a ρ μ x) (e : tyable μ x = true) : ev Φ (.inst a t) ρ μ (.bl (isTy t x)) := fun R X z => h _ _ ⟨e, z⟩
theorem evT_inst {x : D} {t : Ty} (h : ev Φ a ρ μ x) (e : tyable μ x = true) : evT Φ (.inst a t) ρ μ (isTy t x) := fun R X z => h _ _ ⟨e, z⟩
theorem ev_call {f : Str} {s : DSp} {ds : List D} {d : D} (hf : Φ.fns f = some s) (h : evA Φ a ρ μ ds) (q : ∀ (R : RD) X, R d μ → s.sp ds μ R X) : ev Φ (.call f a) ρ μ d := fun R X z => ⟨s, hf, h _ _ (q _ _ z)⟩
theorem evT_call {f : Str} {s : DSp} {ds : List D} {p : Bool} (hf : Φ.fns f = some s) (h : evA Φ a ρ μ ds) (q : ∀ (R : RD) X, R (.bl p) μ → s.sp ds μ R X) : evT Φ (.call f a) ρ μ p := fun R X z => ⟨s, hf, h _ _ (q (fun x μ2 => truth x μ2 fun k => R k μ2) _ z)⟩
theorem ev_callv {f : Str} {i : Nat} {s : DSp} {ds : List D} {d : D} (hi : ρ[i]? = some (some (.fn f))) (hf : Φ.fns f = some s) (h : evA Φ a ρ μ ds) (q : ∀ (R : RD) X, R d μ → s.sp ds μ R X) : ev Φ (.callv i a) ρ μ d := fun R X z => ⟨f, s, hi, hf, h _ _ (q _ _ z)⟩
/-! sources -/
def src0 (μ : Mu) : D → Option (List D)
  | .lst ds => some ds
  | .tup ds => some ds
  | .rd ds => some ds
  | .ref a => match μ a with
    | some (.lst ds) => some ds
    | _ => none
  | _ => none
theorem src_of {x : D} {ds : List D} {R : RI} (e : src0 μ x = some ds) (k : ∀ g : Mu → Prop, g μ → R ds g μ) : srcOf x μ R := by
  cases x with
  | lst xs => cases e; exact k _ trivial
  | tup xs => cases e; exact k _ trivial
  | rd xs => cases e; exact k _ trivial
  | ref a =>
    have e2 : (match μ a with
      | some (.lst ds) => some ds
      | _ => none) = some ds := e
    split at e2
    · rename_i q
      cases e2
      exact ⟨_, q, k _ q⟩
    · cases e2
  | _ => cases e
theorem seq_of {x : D} {ds : List D} {R : RI} (e : src0 μ x = some ds) (k : ∀ g : Mu → Prop, g μ → R ds g μ) : srcSeq x μ R := by
  cases x with
  | lst xs => cases e; exact k _ trivial
  | tup xs => cases e; exact k _ trivial
  | rd xs => cases e; exact k _ trivial
  | ref a =>
    have e2 : (match μ a with
      | some (.lst ds) => some ds
      | _ => none) = some ds := e
    split at e2
    · rename_i q
      cases e2
      exact ⟨_, q, k _ q⟩
    · cases e2
  | _ => cases e
theorem evI_var {i : Nat} {x : D} {ds : List D} (h : ρ[i]? = some (some x)) (e : src0 μ x = some ds) : evI Φ (.var i) ρ μ ds := fun R X k => ⟨x, h, src_of e k⟩
theorem evI_call {f : Str} {s : DSp} {ds xs : List D} {d : D} (hf : Φ.fns f = some s) (h : evA Φ a ρ μ xs) (e : src0 μ d = some ds) (q : ∀ (R : RD) X, R d μ → s.sp xs μ R X) : evI Φ (.call f a) ρ μ ds := fun R X k => ⟨s, hf, h _ _ (q _ _ (src_of e k))⟩
theorem evI_idx {x : D} {xs : List D} {i : Int} {d : D} {ds : List D} (h : ev Φ a ρ μ x) (k : ev Φ b ρ μ (.int i)) (e : items μ x = some xs) (q : atI xs i = some d) (e2 : src0 μ d = some ds) : evI Φ (.idx a b) ρ μ ds := fun R X z => h _ _ (k _ _ (.inl ⟨xs, i, d, e, rfl, q, src_of e2 z⟩))
theorem evI_of {e : IE} {d : D} {ds : List D} (h : ev Φ e ρ μ d) (hh : ∀ R X, semE Φ e ρ μ (fun x μ1 => srcOf x μ1 R) X → semI Φ e ρ μ R X) (e2 : src0 μ d = some ds) : evI Φ e ρ μ ds := fun R X k => hh _ _ (h _ _ (src_of e2 k))
theorem evI_range1 {j : Int} (h : ev Φ a ρ μ (.int j)) (h1 : j ≤ lim) (h2 : -lim ≤ j) : evI Φ (.range1 a) ρ μ ((List.range j.toNat).map fun i => D.int (i : Nat)) := fun R X k => h _ _ ⟨j, rfl, h1, h2, k _ trivial⟩
theorem evI_range2 {i j : Int} (h : ev Φ a ρ μ (.int i)) (h' : ev Φ b ρ μ (.int j)) (h1 : i ≤ lim) (h2 : -lim ≤ i) (h3 : j ≤ lim) (h4 : -lim ≤ j) : evI Φ (.range2 a b) ρ μ ((List.range (j - i).toNat).map fun k => D.int (i + (k : Nat))) := fun R X k => h _ _ (h' _ _ ⟨i, j, rfl, rfl, h1, h2, h3, h4, k _ trivial⟩)
theorem evI_enum {x : D} {ds : List D} (h : ev Φ a ρ μ x) (e : src0 μ x = some ds) : evI Φ (.enum a) ρ μ (ds.zipIdx.map fun p => D.tup [.int (p.2 : Nat), p.1]) := fun R X k => h _ _ (seq_of e fun g hg => k g hg)
/-- a source that stands -/
def evP (Φ : Md) (e : IE) (ρ : Rho) (μ : Mu) (ds : List D) : Prop := ∀ (R : RI) X, R ds (fun _ => True) μ → semI Φ e ρ μ R X
theorem evP.i {e : IE} {ds : List D} (h : evP Φ e ρ μ ds) : evI Φ e ρ μ ds := fun R X k => h R X (k _ trivial)
def srcE : D → Option (List D)
  | .lst ds => some ds
  | .tup ds => some ds
  | .rd ds => some ds
  | _ => none
def srcP : D → Option (List D)
  | .lst ds => some ds
  | .tup ds => some ds
  | .rd ds => some ds
  | .dK ks => some (ks.map fun p => keyD p.1)
  | .str z => some (z.cps.toList.map fun c => .str ⟨#[c]⟩)
  | _ => none
theorem srcP_of {x : D} {ds : List D} {R : RI} (e : srcP x = some ds) (k : R ds (fun _ => True) μ) : srcOf x μ R := by
  cases x with
  | lst xs => cases e; exact k
  | tup xs => cases e; exact k
  | rd xs => cases e; exact k
  | dK xs => cases e; exact k
  | str xs => cases e; exact k
  | _ => cases e
theorem srcE_of {x : D} {ds : List D} {R : RI} (e : srcE x = some ds) (k : R ds (fun _ => True) μ) : srcSeq x μ R := by
  cases x with
  | lst xs => cases e; exact k
  | tup xs => cases e; exact k
  | rd xs => cases e; exact k
  | _ => cases e
theorem evP_var {i : Nat} {x : D} {ds : List D} (h : ρ[i]? = some (some x)) (e : srcP x = some ds) : evP Φ (.var i) ρ μ ds := fun R X k => ⟨x, h, srcP_of e k⟩
theorem evP_idx {x : D} {xs : List D} {i : Int} {d : D} {ds : List D} (h : ev Φ a ρ μ x) (k : ev Φ b ρ μ (.int i)) (e : items μ x = some xs) (q : atI xs i = some d) (e2 : srcP d = some ds) : evP Φ (.idx a b) ρ μ ds := fun R X z => h _ _ (k _ _ (.inl ⟨xs, i, d, e, rfl, q, srcP_of e2 z⟩))
theorem evP_range1 {j : Int} (h : ev Φ a ρ μ (.int j)) (h1 : j ≤ lim) (h2 : -lim ≤ j) : evP Φ (.range1 a) ρ μ ((List.range j.toNat).map fun i => D.int (i : Nat)) := fun R X k => h _ _ ⟨j, rfl, h1, h2, k⟩
theorem evP_range2 {i j : Int} (h : ev Φ a ρ μ (.int i)) (h' : ev Φ b ρ μ (.int j)) (h1 : i ≤ lim) (h2 : -lim ≤ i) (h3 : j ≤ lim) (h4 : -lim ≤ j) : evP Φ (.range2 a b) ρ μ ((List.range (j - i).toNat).map fun k => D.int (i + (k : Nat))) := fun R X k => h _ _ (h' _ _ ⟨i, j, rfl, rfl, h1, h2, h3, h4, k⟩)
theorem evP_enum {x : D} {ds : List D} (h : ev Φ a ρ μ x) (e : srcE x = some ds) : evP Φ (.enum a) ρ μ (ds.zipIdx.map fun p => D.tup [.int (p.2 : Nat), p.1]) := fun R X k => h _ _ (srcE_of e k)
theorem evP_of {e : IE} {d : D} {ds : List D} (h : ev Φ e ρ μ d) (hh : ∀ R X, semE Φ e ρ μ (fun x μ1 => srcOf x μ1 R) X → semI Φ e ρ μ R X) (e2 : srcP d = some ds) : evP Φ e ρ μ ds := fun R X k => hh _ _ (h _ _ (srcP_of e2 k))
theorem ev_globS {x n : Str} (h : Φ.txs x = some n) : ev Φ (.globS x) ρ μ (.str n) := fun R X k => ⟨n, h, k⟩
theorem ev_split {u v : Str} (h : ev Φ a ρ μ (.str u)) (k : ev Φ b ρ μ (.str v)) (h0 : v.length ≠ 0) (h1 : u.length ≤ lim) : ev Φ (.split false a b) ρ μ (.lst ((Txt.split u v).map D.str)) := fun R X z => h _ _ ⟨⟨u, rfl⟩, k _ _ ⟨u, v, rfl, rfl, h0, h1, z⟩⟩
theorem ev_join {u : Str} {y : D} {ys : List Str} (h : ev Φ a ρ μ (.str u)) (k : ev Φ b ρ μ y) (e : items μ y = some (ys.map D.str)) (h1 : (ys.map (·.length)).sum + ys.length * u.length ≤ lim) : ev Φ (.join a b) ρ μ (.str (Txt.join u ys)) := fun R X z => h _ _ ⟨⟨u, rfl⟩, k _ _ ⟨u, ys, rfl, e, h1, z⟩⟩
theorem ev_adds {u v : Str} {m : Bool} (h : ev Φ a ρ μ (.str u)) (k : ev Φ b ρ μ (.str v)) (hl : u.length + v.length ≤ lim) : ev Φ (.bin .add m a b) ρ μ (.str (u ++ v)) := fun R X q => h _ _ (k _ _ ⟨hl, q⟩)
theorem ev_slices {u : Str} {m : Bool} {lo hi : IE} {l h' : Option Int} (h : ev Φ a ρ μ (.str u)) (hl : ∀ R X, R l μ → semO Φ lo ρ μ R X) (hh : ∀ R X, R h' μ → semO Φ hi ρ μ R X) (hz : u.length ≤ lim) : ev Φ (.slice m a lo hi) ρ μ (.str (cutS u l h')) := fun R X q => h _ _ (hl _ _ (hh _ _ ⟨hz, q⟩))
theorem evP_zipT {as bs : List D} (h : ev Φ a ρ μ (.tup as)) (k : ev Φ b ρ μ (.tup bs)) : evP Φ (.zip a b) ρ μ ((as.zip bs).map fun p => .tup [p.1, p.2]) := fun R X q => h _ _ (k _ _ q)
/-! comprehensions -/
theorem ev_lc {el it : IE} {tg own : List Nat} {tp : Bool} {ds : List D} {f : D → D} (hi : evI Φ it ρ μ ds) (hl : ds.length ≤ lim) (hb : ∀ d, d ∈ ds → ∀ R : Rho → Prop, (∀ ρ2, ev Φ el ρ2 μ (f d) → R ρ2) → bindD tg tp d (wipeD ρ own) R) :
    ev Φ (.lc false el tg tp it false c own) ρ μ (.lst (ds.map f)) := fun R X z => hi _ _ fun g hg => ⟨hl, turns_map f hg (fun d hd acc K k => hb d hd _ fun ρ2 q => q _ _ k) z⟩
theorem ev_lcF {el it : IE} {tg own : List Nat} {tp : Bool} {ds : List D} {f : D → Option D} (hi : evI Φ it ρ μ ds) (hl : ds.length ≤ lim)
    (hb : ∀ d, d ∈ ds → ∀ R : Rho → Prop, (∀ ρ2, (∃ p, evT Φ c ρ2 μ p ∧ (p = true → ∃ y, f d = some y ∧ ev Φ el ρ2 μ y) ∧ (p = false → f d = none)) → R ρ2) → bindD tg tp d (wipeD ρ own) R) :
    ev Φ (.lc false el tg tp it true c own) ρ μ (.lst (ds.filterMap f)) := fun R X z => hi _ _ fun g hg => ⟨hl, turns_filter f hg (fun d hd acc K k => hb d hd _ fun ρ2 ⟨p, q1, q2, q3⟩ => q1 _ _ (by
      cases p with
      | true =>
        obtain ⟨y, e, q⟩ := q2 rfl
        rw [e] at k
        exact q _ _ k
      | false =>
        rw [q3 rfl] at k
        simpa using k)) z⟩
theorem ev_lc2 {el it it1 c1 : IE} {tg own tg1 : List Nat} {tp tp1 : Bool} {ds : List D} {g1 : D → List D} (hi : evI Φ it ρ μ ds) (hl : (ds.flatMap g1).length ≤ lim)
    (hb : ∀ d, d ∈ ds → ∀ R : Rho → Prop, (∀ ρ2, (∃ ds1 f, g1 d = ds1.map f ∧ evI Φ it1 ρ2 μ ds1 ∧ ∀ d1, d1 ∈ ds1 → ∀ R : Rho → Prop, (∀ ρ3, ev Φ el ρ3 μ (f d1) → R ρ3) → bindD tg1 tp1 d1 (wipeD ρ2 tg1) R) → R ρ2) → bindD tg tp d (wipeD ρ own) R) :
    ev Φ (.lc2 false el tg tp it false c tg1 tp1 it1 false c1 own) ρ μ (.lst (ds.flatMap g1)) := fun R X z => hi _ _ fun g hg => by
  refine turns_by (fun i a m => m = μ ∧ a = (ds.take i).flatMap g1) ⟨rfl, by simp⟩ (fun i a m _ h => by rw [h.1]; exact hg) (fun i d a m K hd h k => ?_) (fun a m h => by rw [h.1, h.2, List.take_length]; exact z)
  obtain ⟨rfl, rfl⟩ := h
  refine hb d (List.mem_of_getElem? hd) _ fun ρ2 ⟨ds1, f, e1, hi1, hb1⟩ => ?_
  have etk : (ds.take (i + 1)).flatMap g1 = (ds.take i).flatMap g1 ++ ds1.map f := by
    rw [List.take_succ, hd, List.flatMap_append]
    simp [e1]
  have hle : ((ds.take i).flatMap g1 ++ ds1.map f).length ≤ lim := by
    rw [← etk]
    refine Nat.le_trans ?_ hl
    have : ds.flatMap g1 = (ds.take (i + 1)).flatMap g1 ++ (ds.drop (i + 1)).flatMap g1 := by rw [← List.flatMap_append, List.take_append_drop]
    rw [this, List.length_append]
    omega
  refine hi1 _ _ fun g' hg' => ?_
  refine turns_by (fun j a' m' => m' = m ∧ a' = (ds.take i).flatMap g1 ++ (ds1.take j).map f) ⟨rfl, by simp⟩ (fun j a' m' _ h' => by rw [h'.1]; exact hg') (fun j d1 a' m' K' hd1 h' k' => ?_) (fun a' m' h' => k _ _ ⟨h'.1, by rw [h'.2, List.take_length, etk]⟩)
  obtain ⟨rfl, rfl⟩ := h'
  refine hb1 d1 (List.mem_of_getElem? hd1) _ fun ρ3 q => q _ _ ⟨?_, k' _ _ ⟨rfl, ?_⟩⟩
  · have hj : j < ds1.length := (List.getElem?_eq_some_iff.mp hd1).1
    rw [List.length_append, List.length_map] at hle ⊢
    rw [List.length_take]
    omega
  · rw [List.take_succ, hd1, List.append_assoc]
    simp
theorem turnsK_by {body : D → List (Key × D) → Mu → (List (Key × D) → Mu → Prop) → Prop} {g : Mu → Prop} {ds : List D} {R : List (Key × D) → Mu → Prop} (f : List (Key × D) → D → List (Key × D)) (hg : g μ) (hb : ∀ d, d ∈ ds → ∀ acc (K : List (Key × D) → Mu → Prop), K (f acc d) μ → body d acc μ K) : ∀ {acc : List (Key × D)}, R (ds.foldl f acc) μ → turnsK body g ds acc μ R := by
  induction ds with
  | nil => exact fun {acc} he => ⟨hg, he⟩
  | cons d ds ih => exact fun {acc} he => ⟨hg, hb d List.mem_cons_self acc _ (ih (fun d hd => hb d (List.mem_cons_of_mem _ hd)) he)⟩
theorem ev_dc {ki vi it : IE} {tg own : List Nat} {tp : Bool} {ds : List D} {f : D → Key × D} (hi : evI Φ it ρ μ ds) (hl : ds.length ≤ lim) (hb : ∀ d, d ∈ ds → ∀ R : Rho → Prop, (∀ ρ2, (∃ y, keyOf y = some (f d).1 ∧ ev Φ ki ρ2 μ y ∧ ev Φ vi ρ2 μ (f d).2) → R ρ2) → bindD tg tp d (wipeD ρ own) R) :
    ev Φ (.dc ki vi tg tp it false c own) ρ μ (.dK (ds.foldl (fun acc d => setK acc (f d).1 (f d).2) [])) := fun R X z => hi _ _ fun g hg => ⟨hl, turnsK_by (fun acc d => setK acc (f d).1 (f d).2) hg (fun d hd acc K k => hb d hd _ fun ρ2 ⟨y, e, q1, q2⟩ => q1 _ _ (q2 _ _ ⟨_, e, k⟩)) z⟩
end
end PL
/-! PLX: the head: exceptions with a field of their own; a law's def lets nothing out. -/
namespace PL
open PySem PySem.Spec PyProof.Rows L2 He
def hookE (n : Nat) (fa : List Fa) (fn : List DefD) (ex : PySem.W.Frag → Bool) : PySem.W.Hook where
  α := AlD × Bool
  obs := fun s => (obsDG n fa fn s.heap.get?, ex (frG s.heap.get? (asD s.heap.get? n)))
  val := fun _ => (valD fn, true)
  says := fun _ h => ∃ K : PySem.W.Frag, K.In h ∧ SaysD fa fn K ∧ ex K = true
  of := fun _ _ e => ⟨_, frG_in, congrArg Prod.fst e, congrArg Prod.snd e⟩
  keeps := fun _ _ _ ⟨K, hK, c⟩ k => ⟨K, PySem.W.Frag.In.keeps hK k, c⟩
def obsE (n : Nat) (fa : List Fa) (fn : List DefD) (ex : PySem.W.Frag → Bool) (g : Addr → Option Obj) : AlD × Bool := (obsDG n fa fn g, ex (frG g (asD g n)))
theorem obsE_eq {n : Nat} {fa : List Fa} {fn : List DefD} {ex : PySem.W.Frag → Bool} {g : Addr → Option Obj} {s : Shared} (h : ∀ a, g a = s.heap.get? a) : obsE n fa fn ex g = (hookE n fa fn ex).obs s := by
  have e : g = s.heap.get? := funext h
  rw [e] <;> rfl
/-- an own exception class that may have an __init__ -/
def oexB (K : PySem.W.Frag) (C : Addr) : Bool := (match K.lookup C with
  | some ⟨.type "type", _, .cls cd, sl⟩ => (match cd.mro, sl.toList with
    | .ref C' :: bm, [_, _, _, _, some (.builtin n), _] => C' == C && n == "ValueError.__new__" && !cd.hasDel && cd.hasDict && PySem.HandSPX.refsVE bm
    | _, _ => false)
  | _ => false) && (eqO (PySem.W.findIn K (.ref C) "__setattr__") (some (some (.builtin "object.__setattr__"))) && (decide (PySem.W.subIn K (.ref C) (.type "BaseException") = some true) && (decide (PySem.W.typeIn K (.ref C) = some (.type "type")) && PySem.W.keepIn K (.ref C))))
theorem oexB_ok {K : PySem.W.Frag} {C : Addr} (h : oexB K C = true) : OexC K C := by
  obtain ⟨h1, h⟩ := ba h
  obtain ⟨h2, h⟩ := ba h
  obtain ⟨h3, h⟩ := ba h
  obtain ⟨h4, h5⟩ := ba h
  refine ⟨?_, eqO_ok h2, of_decide_eq_true h3, of_decide_eq_true h4, h5⟩
  split at h1
  · rename_i dd cd sl ho
    split at h1
    · rename_i C' bm k0 k1 k2 k3 n k5 hm hs
      simp only [Bool.and_eq_true, beq_iff_eq, Bool.not_eq_true'] at h1
      obtain ⟨⟨⟨⟨rfl, rfl⟩, hdel⟩, hd⟩, hb⟩ := h1
      obtain ⟨nm, bs, mro, ns, qn, hd', sn, sub, ab, col, del⟩ := cd
      dsimp only at hm hdel hd
      subst hm hdel hd
      have hsl : sl = #[k0, k1, k2, k3, some (.builtin "ValueError.__new__"), k5] := by
        obtain ⟨l⟩ := sl
        simp only at hs
        rw [hs]
      subst hsl
      exact ⟨_, _, _, _, _, _, _, _, _, _, _, _, _, _, _, ho, hb⟩
    · cases h1
  · cases h1
end PL
namespace PL
open PySem PySem.Spec PyProof.Rows L2 PySem.W
section
variable {P : Program} {w : World} {K : PySem.W.Frag} {mg : Str → Option Value} {base : Heap} {Φ : Md} {k : Nat} {x qual : Str} {params : Arguments} {body : List Stmt} {scope : Scope} {kws : List (Str × V)} {f : Addr} {fd : FuncData} {N ps xs : List Str} {is : IS} {sd : DSp}
/-- self.f = p -/
def initB (p g : Str) : List Stmt → Bool
  | [.Assign [.Attribute (.Name s _) g' _] (.Name p' _) _] => decide (s = "self") && (decide (g' = g) && decide (p' = p))
  | _ => false
theorem init_ok {p g : Str} {C : Addr} (F : FunD K x qual params body scope [] kws f fd) (hb : initB p g body = true) (FS : FnScope ["self", p] ["self", p] scope) (T : OexC K C) (hno : PySem.W.findIn K (.ref C) g = some none) (hv1 : Vis scope "self") (hv2 : Vis scope p)
    (hp : (p == ("__debug__" : Str)) = false) (hp2 : (p == ("__classdict__" : Str)) = false) : FnOk P w K mg base CX0 1 f fd ["self", p] (spInit C g) := by
  unfold initB at hb
  split at hb
  · simp only [Bool.and_eq_true, decide_eq_true_eq] at hb
    obtain ⟨rfl, rfl, rfl⟩ := hb
    refine F.ok (CX := CX0) (k := 0) FS (fun vs H Q E h => ?_) fun cdv A outer s H vs Q E hr h => ?_
    · obtain ⟨a, v, rfl, _⟩ := h
      rfl
    · obtain ⟨a, v, rfl, ea, q⟩ := h
      refine ⟨_, pss_one (ps_ost (pe_var (i := 0) rfl hv1) (pe_var (i := 1) rfl hv2 hp hp2)), ?_⟩
      exact ⟨v, rfl, .ref a, rfl, a, C, rfl, T, hno, .inl ⟨ea, fun dx h1 h2 => q dx h1 h2⟩⟩
  · cases hb
theorem own1_ok {c p g : Str} {C fI : Addr} (h1 : mg c = some (.ref C)) (T : OexC K C) (XC : XfC K C) (m : PySem.W.findIn K (.ref C) "__init__" = some (some (.ref fI))) (t : PySem.W.typeIn K (.ref fI) = some (.type "function")) (hno : PySem.W.findIn K (.ref C) g = some none) (F : FnOk P w K mg base CX0 1 fI fd ["self", p] (spInit C g)) (hb : Binds K fd ["self", p] []) : Own1 P w K mg base c g :=
  ⟨C, fI, fd, p, h1, T, m, t, XC, hno, F, hb⟩
/-- a promise without exceptions -/
def spNo (K : PySem.W.Frag) (mg : Str → Option Value) (s : DSp) : Sp := fun vs H Q _ => ∃ I F μ ds R, HM K mg H I F μ ∧ Reps K mg I ds vs ∧ s.sp ds μ R (fun _ _ => False) ∧ KE K mg I F R Q
/-- the law's def: nothing leaves it -/
theorem def_no (F : FunD K x qual params body scope [] kws f fd) (FS : FnScope N ps scope) (T : Tab P w K mg base Φ k) (hx : ∀ c, c ∈ xs → ∃ C, mg c = some (.ref C)) (hn : sd.n = ps.length)
    (ck : chkB is ⟨N, scope, none, true, xs⟩ body = true) (mean : ∀ ds μ R X, sd.sp ds μ R X → semS Φ is (startD N.length ds) μ (dEnd R X)) : FnOk P w K mg base CX0 (k + 1) f fd ps (spNo K mg sd) := by
  refine F.ok FS (fun vs H Q E h => ?_) fun cdv A outer s H vs Q E hr h => ?_
  · obtain ⟨I, F, μ, ds, R, _, r, q, _⟩ := h
    rw [r.length, ← hn]
    exact sd.len _ _ _ _ q
  · obtain ⟨I, F', μ, ds, R, hm, r, sp, ke⟩ := h
    have G : GoodS Φ k ⟨N, scope, none, true, xs⟩ (cxOf CX0 P w K mg base N qual scope f cdv A outer s H E).nox :=
      ⟨⟨T, rfl, rfl, rfl, FS.nd, rfl, fun _ => hr, hx⟩, rfl, rfl, fun _ => PassesOwn.never⟩
    refine ⟨_, PSs.nox ((allS Φ k is).b (W := W0) G (takes0 _) ck), ?_⟩
    refine ⟨I, F', μ, startD N.length ds, dEnd R _, hm, start_ok r, mean ds μ R _ sp, ⟨fun I1 H1 μ1 ρ1 σ1 x1 m1 s1 ⟨keep, p1⟩ => ?_, fun _ _ _ _ _ _ _ _ z => z.elim, fun _ _ _ _ _ _ _ _ z => z.elim, fun I1 H1 μ1 d v x1 m1 r1 ⟨keep, n, p1⟩ => ?_, fun y I1 H1 μ1 ρ1 σ1 cls dd x1 m1 s1 xr ⟨keep, p1⟩ => p1.elim⟩⟩
    · exact ke _ H1 _ .non _ (x1.trans (m1.ext keep)) (m1.frz keep) rfl p1
    · exact ke _ H1 _ _ v (x1.trans (m1.ext keep)) (m1.frz keep) (m1.fz keep n d v r1) p1
end
end PL
namespace Hd
open PySem PySem.Spec PyProof.Rows L2
def top (i : Nat) : Stmt := PySem.Challenge.pw_arrowsgoon_k78_whole_texts_of_webs_and_a.main.body.getD i (.Pass ⟨0, 0, 0, 0⟩)
abbrev s_is_integer : Stmt := top 7
abbrev s_is_between : Stmt := top 8
abbrev s_is_tie : Stmt := top 9
abbrev s_are_ties : Stmt := top 10
abbrev s_is_web : Stmt := top 11
abbrev s_need_web : Stmt := top 12
abbrev s_are_letters : Stmt := top 16
abbrev s_behind_of : Stmt := top 17
abbrev s_are_arrows_of : Stmt := top 18
abbrev s_need_arrows : Stmt := top 19
abbrev s_lined : Stmt := top 22
abbrev s_web_text : Stmt := top 23
abbrev s_arrows_text : Stmt := top 24
abbrev s_number_of : Stmt := top 25
abbrev s_pair_in : Stmt := top 26
abbrev s_pairs_read : Stmt := top 27
abbrev s_read_web : Stmt := top 28
abbrev s_read_arrows : Stmt := top 29
abbrev s__law_hand : Stmt := top 31
abbrev s__law_draw : Stmt := top 32
abbrev s__law_some : Stmt := top 33
abbrev s__law_kept : Stmt := top 34
abbrev s__law_mixed : Stmt := top 35
abbrev s__law_web : Stmt := top 36
abbrev s__law_table : Stmt := top 37
abbrev s__law_random : Stmt := top 38
abbrev s__law_put_in : Stmt := top 39
abbrev s__law_named : Stmt := top 40
abbrev s__law_known : Stmt := top 41
abbrev s__law_nested : Stmt := top 42
abbrev s__law_any_web : Stmt := top 43
abbrev s__law_closed : Stmt := top 44
abbrev s__law_order_table : Stmt := top 45
abbrev s__law_put_behind : Stmt := top 46
abbrev s__law_letters : Stmt := top 47
abbrev s__law_order : Stmt := top 48
abbrev s__law_arrow_table : Stmt := top 49
abbrev s__law_goes_on : Stmt := top 50
abbrev s__law_are_arrows : Stmt := top 51
abbrev s__law_no_web : Stmt := top 52
abbrev s__law_no_arrows : Stmt := top 53
abbrev s__law_lined : Stmt := top 54
abbrev s__law_number_of : Stmt := top 55
abbrev s__law_pair : Stmt := top 56
abbrev s__law_read : Stmt := top 57
abbrev s__law_is_web : Stmt := top 58
abbrev s__law_due : Stmt := top 59
abbrev s__law_outcome : Stmt := top 60
abbrev s__law_bent : Stmt := top 61
abbrev s_law : Stmt := top 62
end Hd
namespace PL
open PySem PySem.Spec PyProof.Rows L2 PySem.W
def n_is_integer : List Str := ["thing"]
def i_is_integer : IS :=
  (.sq (.ret (.and (.inst (.var 0) .int) (.not (.inst (.var 0) .bool))))
  .nop)
def n_is_between : List Str := ["thing", "least", "greatest"]
def i_is_between : IS :=
  (.sq (.ret (.and (.call "is_integer" (.cs (.var 0) .nl)) (.chain .le .le (.var 1) (.var 0) (.var 2))))
  .nop)
def n_is_tie : List Str := ["thing", "many"]
def i_is_tie : IS :=
  (.sq (.ite (.or (.not (.inst (.var 0) .tuple)) (.or (.cmp .ne (.bi .len false (.cs (.var 0) .nl)) (.int 2)) (.not (.call "is_between" (.cs (.idx (.var 0) (.int 0)) (.cs (.int 0) (.cs (.bin .sub false (.var 1) (.int 1)) .nl))))))) (.sq (.ret (.bl false))
    .nop) .nop)
  (.sq (.ret (.call "is_between" (.cs (.idx (.var 0) (.int 1)) (.cs (.bin .add false (.idx (.var 0) (.int 0)) (.int 1)) (.cs (.bin .sub false (.var 1) (.int 1)) .nl)))))
  .nop))
def n_are_ties : List Str := ["thing", "many", "tie", "at"]
def i_are_ties : IS :=
  (.sq (.ite (.or (.not (.inst (.var 0) .tuple)) (.not (.bi .all false (.cs (.lc false (.call "is_tie" (.cs (.var 2) (.cs (.var 1) .nl))) [2] false (.var 0) false .nl [2]) .nl)))) (.sq (.ret (.bl false))
    .nop) .nop)
  (.sq (.ret (.bi .all false (.cs (.lc false (.cmp .lt (.idx (.var 0) (.bin .sub false (.var 3) (.int 1))) (.idx (.var 0) (.var 3))) [3] false (.range2 (.int 1) (.bi .len false (.cs (.var 0) .nl))) false .nl [3]) .nl)))
  .nop))
def n_is_web : List Str := ["thing"]
def i_is_web : IS :=
  (.sq (.ite (.or (.not (.inst (.var 0) .tuple)) (.or (.cmp .ne (.bi .len false (.cs (.var 0) .nl)) (.int 2)) (.not (.call "is_between" (.cs (.idx (.var 0) (.int 0)) (.cs (.int 1) (.cs (.glob "MOST_CORNERS") .nl))))))) (.sq (.ret (.bl false))
    .nop) .nop)
  (.sq (.ret (.call "are_ties" (.cs (.idx (.var 0) (.int 1)) (.cs (.idx (.var 0) (.int 0)) .nl))))
  .nop))
def n_need_web : List Str := ["thing"]
def i_need_web : IS :=
  (.sq (.ite (.not (.call "is_web" (.cs (.var 0) .nl))) (.sq (.raise "NoWeb")
    .nop) .nop)
  .nop)
def n_are_letters : List Str := ["web", "thing", "letter"]
def i_are_letters : IS :=
  (.sq (.ite (.or (.not (.inst (.var 1) .tuple)) (.cmp .ne (.bi .len false (.cs (.var 1) .nl)) (.bi .len false (.cs (.idx (.var 0) (.int 1)) .nl)))) (.sq (.ret (.bl false))
    .nop) .nop)
  (.sq (.ret (.bi .all false (.cs (.lc false (.and (.inst (.var 2) .str) (.cmp .isin (.var 2) (.tup (.cs (.globS "FORWARD") (.cs (.globS "BACK") .nl))))) [2] false (.var 1) false .nl [2]) .nl)))
  .nop))
def n_behind_of : List Str := ["web", "letters", "found", "_", "one", "other", "letter"]
def i_behind_of : IS :=
  (.sq (.asg (.nm 2) (.lc false (.dnew true) [3] false (.range1 (.idx (.var 0) (.int 0))) false .nl [3]))
  (.sq (.forP [.tp [4, 5], .nm 6] (.zip (.idx (.var 0) (.int 1)) (.var 1)) (.sq (.ite (.cmp .eq (.var 6) (.globS "FORWARD")) (.sq (.asg (.sub (.idx (.var 2) (.var 4)) (.var 5)) (.bl true))
      .nop) (.sq (.asg (.sub (.idx (.var 2) (.var 5)) (.var 4)) (.bl true))
      .nop))
    .nop))
  (.sq (.ret (.var 2))
  .nop)))
def n_are_arrows_of : List Str := ["web", "thing", "behind", "row", "middle", "last"]
def i_are_arrows_of : IS :=
  (.sq (.ite (.not (.call "are_letters" (.cs (.var 0) (.cs (.var 1) .nl)))) (.sq (.ret (.bl false))
    .nop) .nop)
  (.sq (.asg (.nm 2) (.call "behind_of" (.cs (.var 0) (.cs (.var 1) .nl))))
  (.sq (.for [3] false (.var 2) (.sq (.for [4] false (.var 3) (.sq (.ite (.not (.bi .all false (.cs (.lc false (.cmp .isin (.var 5) (.var 3)) [5] false (.idx (.var 2) (.var 4)) false .nl [5]) .nl))) (.sq (.ret (.bl false))
        .nop) .nop)
      .nop))
    .nop))
  (.sq (.ret (.bl true))
  .nop))))
def n_need_arrows : List Str := ["web", "thing"]
def i_need_arrows : IS :=
  (.sq (.expr (.call "need_web" (.cs (.var 0) .nl)))
  (.sq (.ite (.not (.call "are_arrows_of" (.cs (.var 0) (.cs (.var 1) .nl)))) (.sq (.raise "NoArrows")
    .nop) .nop)
  .nop))
def n_lined : List Str := ["rows", "word", "row"]
def i_lined : IS :=
  (.sq (.ret (.join (.str "") (.lc false (.bin .add false (.join (.str " ") (.lc false (.bi .str false (.cs (.var 1) .nl)) [1] false (.var 2) false .nl [1])) (.str "\n")) [2] false (.var 0) false .nl [2])))
  .nop)
def n_web_text : List Str := ["web", "tie"]
def i_web_text : IS :=
  (.sq (.expr (.call "need_web" (.cs (.var 0) .nl)))
  (.sq (.ret (.call "lined" (.cs (.bin .add false (.lst false (.cs (.tup (.cs (.str "web") (.cs (.idx (.var 0) (.int 0)) (.cs (.bi .len false (.cs (.idx (.var 0) (.int 1)) .nl)) .nl)))) .nl)) (.lc false (.bin .add false (.tup (.cs (.str "tie") .nl)) (.var 1)) [1] false (.idx (.var 0) (.int 1)) false .nl [1])) .nl)))
  .nop))
def n_arrows_text : List Str := ["web", "arrows", "rows", "tie", "letter"]
def i_arrows_text : IS :=
  (.sq (.expr (.call "need_arrows" (.cs (.var 0) (.cs (.var 1) .nl))))
  (.sq (.asg (.nm 2) (.lst true (.cs (.tup (.cs (.str "arrows") (.cs (.idx (.var 0) (.int 0)) (.cs (.bi .len false (.cs (.idx (.var 0) (.int 1)) .nl)) .nl)))) .nl)))
  (.sq (.for [3, 4] true (.zip (.idx (.var 0) (.int 1)) (.var 1)) (.sq (.expr (.meth (.var 2) .append (.cs (.bin .add false (.tup (.cs (.str "arrow") .nl)) (.ite (.cmp .eq (.var 4) (.globS "FORWARD")) (.var 3) (.rev false (.var 3)))) .nl)))
    .nop))
  (.sq (.ret (.call "lined" (.cs (.var 2) .nl)))
  .nop))))
def n_number_of : List Str := ["word", "sign"]
def i_number_of : IS :=
  (.sq (.ite (.or (.not (.chain .le .le (.int 1) (.bi .len false (.cs (.var 0) .nl)) (.int 4))) (.not (.bi .all false (.cs (.lc false (.cmp .isin (.var 1) (.globS "DIGITS")) [1] false (.var 0) false .nl [1]) .nl)))) (.sq (.ret .non)
    .nop) .nop)
  (.sq (.ret (.ite (.or (.cmp .eq (.var 0) (.str "0")) (.cmp .ne (.idx (.var 0) (.int 0)) (.str "0"))) (.bi .int false (.cs (.var 0) .nl)) .non))
  .nop))
def n_pair_in : List Str := ["rows", "at", "head", "words", "numbers", "word"]
def i_pair_in : IS :=
  (.sq (.ite (.cmp .ge (.var 1) (.bin .sub false (.bi .len false (.cs (.var 0) .nl)) (.int 1))) (.sq (.raise1 "BadText" (.bin .add false (.var 1) (.int 1)))
    .nop) .nop)
  (.sq (.asg (.nm 3) (.split false (.idx (.var 0) (.var 1)) (.str " ")))
  (.sq (.asg (.nm 4) (.lc false (.call "number_of" (.cs (.var 5) .nl)) [5] false (.slice false (.var 3) (.int 1) .nl) false .nl [5]))
  (.sq (.ite (.or (.cmp .ne (.idx (.var 3) (.int 0)) (.var 2)) (.or (.cmp .ne (.bi .len false (.cs (.var 4) .nl)) (.int 2)) (.cmp .isin .non (.var 4)))) (.sq (.raise1 "BadText" (.bin .add false (.var 1) (.int 1)))
    .nop) .nop)
  (.sq (.ret (.bi .tuple false (.cs (.var 4) .nl)))
  .nop)))))
def n_pairs_read : List Str := ["text", "head", "word", "rows", "many", "count", "pairs", "at"]
def i_pairs_read : IS :=
  (.sq (.ite (.not (.inst (.var 0) .str)) (.sq (.raise1 "BadText" (.int 0))
    .nop) .nop)
  (.sq (.asg (.nm 3) (.split false (.var 0) (.str "\n")))
  (.sq (.unp [4, 5] (.call "pair_in" (.cs (.var 3) (.cs (.int 0) (.cs (.var 1) .nl)))))
  (.sq (.asgX 6 (.call "pair_in" (.cs (.var 3) (.cs (.bin .add false (.var 7) (.int 1)) (.cs (.var 2) .nl)))) [7] false (.range1 (.var 5)) [7])
  (.sq (.ite (.or (.cmp .ne (.bi .len false (.cs (.var 3) .nl)) (.bin .add false (.var 5) (.int 2))) (.cmp .ne (.idx (.var 3) (.neg (.int 1))) (.str ""))) (.sq (.raise1 "BadText" (.bin .add false (.var 5) (.int 2)))
    .nop) .nop)
  (.sq (.ret (.tup (.cs (.var 4) (.cs (.var 6) .nl))))
  .nop))))))
def n_read_web : List Str := ["text", "many", "pairs", "web"]
def i_read_web : IS :=
  (.sq (.unp [1, 2] (.call "pairs_read" (.cs (.var 0) (.cs (.str "web") (.cs (.str "tie") .nl)))))
  (.sq (.asg (.nm 3) (.tup (.cs (.var 1) (.cs (.bi .tuple false (.cs (.var 2) .nl)) .nl))))
  (.sq (.expr (.call "need_web" (.cs (.var 3) .nl)))
  (.sq (.ret (.var 3))
  .nop))))
def n_read_arrows : List Str := ["text", "many", "pairs", "ties", "pair", "web", "arrows"]
def i_read_arrows : IS :=
  (.sq (.unp [1, 2] (.call "pairs_read" (.cs (.var 0) (.cs (.str "arrows") (.cs (.str "arrow") .nl)))))
  (.sq (.asg (.nm 3) (.bi .tuple false (.cs (.lc false (.tup (.cs (.bi .min false (.cs (.var 4) .nl)) (.cs (.bi .max false (.cs (.var 4) .nl)) .nl))) [4] false (.var 2) false .nl [4]) .nl)))
  (.sq (.asg (.nm 5) (.tup (.cs (.var 1) (.cs (.var 3) .nl))))
  (.sq (.asg (.nm 6) (.bi .tuple false (.cs (.lc false (.ite (.cmp .lt (.idx (.var 4) (.int 0)) (.idx (.var 4) (.int 1))) (.globS "FORWARD") (.str "<")) [4] false (.var 2) false .nl [4]) .nl)))
  (.sq (.expr (.call "need_arrows" (.cs (.var 5) (.cs (.var 6) .nl))))
  (.sq (.ret (.tup (.cs (.var 5) (.cs (.var 6) .nl))))
  .nop))))))
def n__law_hand : List Str := ["script", "cells", "cell"]
def i__law_hand : IS :=
  (.sq (.asg (.nm 1) (.lc false (.bi .abs false (.cs (.bi .int false (.cs (.var 2) .nl)) .nl)) [2] false (.slice false (.var 0) .nl (.int 63)) false .nl [2]))
  (.sq (.ret (.lst true (.cs (.var 1) (.cs (.int 0) (.cs (.int 0) (.cs (.bin .add false (.int 31) (.bin .mul false (.int 7) (.bi .len false (.cs (.var 1) .nl)))) (.cs (.int 0) .nl)))))))
  .nop))
def n__law_draw : List Str := ["hand", "many", "cell", "digit", "number"]
def i__law_draw : IS :=
  (.sq (.ite (.and (.cmp .eq (.idx (.var 0) (.int 2)) (.int 0)) (.cmp .lt (.idx (.var 0) (.int 1)) (.bi .len false (.cs (.idx (.var 0) (.int 0)) .nl)))) (.sq (.asg (.nm 2) (.idx (.idx (.var 0) (.int 0)) (.idx (.var 0) (.int 1))))
    (.sq (.asg (.sub (.var 0) (.int 1)) (.bin .add false (.idx (.var 0) (.int 1)) (.int 1)))
    (.sq (.asg (.sub (.var 0) (.int 3)) (.bin .mod false (.bi .int false (.cs (.bin .add false (.bin .add false (.bin .mul false (.idx (.var 0) (.int 3)) (.int 48271)) (.var 2)) (.int 11)) .nl)) (.int 2147483647)))
    (.sq (.ite (.cmp .ge (.var 2) (.bin .pow false (.int 10) (.int 18))) (.sq (.asg (.sub (.var 0) (.int 2)) (.var 2))
      .nop) .nop)
    .nop)))) .nop)
  (.sq (.ite (.cmp .gt (.idx (.var 0) (.int 2)) (.int 0)) (.sq (.asg (.nm 3) (.bin .mod false (.bi .int false (.cs (.idx (.var 0) (.int 2)) .nl)) (.var 1)))
    (.sq (.asg (.sub (.var 0) (.int 2)) (.bin .fdiv false (.idx (.var 0) (.int 2)) (.var 1)))
    (.sq (.ret (.var 3))
    .nop))) .nop)
  (.sq (.asg (.sub (.var 0) (.int 4)) (.bin .add false (.idx (.var 0) (.int 4)) (.int 1)))
  (.sq (.asg (.nm 4) (.bin .mod false (.bi .int false (.cs (.bin .mul false (.bi .int false (.cs (.bin .add false (.idx (.var 0) (.int 3)) (.bin .mul false (.int 6007) (.idx (.var 0) (.int 4)))) .nl)) (.int 69621)) .nl)) (.int 2147483629)))
  (.sq (.asg (.nm 4) (.bin .mod false (.bi .int false (.cs (.bin .mul false (.var 4) (.bin .add false (.bin .fdiv false (.var 4) (.int 1013)) (.int 48271))) .nl)) (.int 2147483647)))
  (.sq (.asg (.nm 4) (.bin .mod false (.bi .int false (.cs (.bin .mul false (.var 4) (.bin .add false (.bin .fdiv false (.var 4) (.int 2011)) (.int 16807))) .nl)) (.int 2147483587)))
  (.sq (.ret (.bin .mod false (.bi .int false (.cs (.bin .fdiv false (.var 4) (.int 32)) .nl)) (.var 1)))
  .nop)))))))
def n__law_some : List Str := ["hand", "things"]
def i__law_some : IS :=
  (.sq (.ret (.idx (.var 1) (.call "_law_draw" (.cs (.var 0) (.cs (.bi .len false (.cs (.var 1) .nl)) .nl)))))
  .nop)
def n__law_kept : List Str := ["told", "due", "at"]
def i__law_kept : IS :=
  (.sq (.ite (.or (.inst (.var 1) .tuple) (.inst (.var 1) .list)) (.sq (.ite (.or (.cmp .ne (.inst (.var 0) .tuple) (.inst (.var 1) .tuple)) (.cmp .ne (.inst (.var 0) .list) (.inst (.var 1) .list))) (.sq (.ret (.bl false))
      .nop) .nop)
    (.sq (.ret (.and (.cmp .eq (.bi .len false (.cs (.var 0) .nl)) (.bi .len false (.cs (.var 1) .nl))) (.bi .all false (.cs (.lc false (.call "_law_kept" (.cs (.idx (.var 0) (.var 2)) (.cs (.idx (.var 1) (.var 2)) .nl))) [2] false (.range1 (.bi .len false (.cs (.var 1) .nl))) false .nl [2]) .nl))))
    .nop)) .nop)
  (.sq (.ite (.cmp .is (.var 1) .non) (.sq (.ret (.cmp .is (.var 0) .non))
    .nop) .nop)
  (.sq (.ite (.inst (.var 1) .bool) (.sq (.ret (.ite (.var 1) (.cmp .is (.var 0) (.bl true)) (.cmp .is (.var 0) (.bl false))))
    .nop) .nop)
  (.sq (.ite (.inst (.var 1) .int) (.sq (.ret (.and (.inst (.var 0) .int) (.and (.not (.inst (.var 0) .bool)) (.cmp .eq (.var 0) (.var 1)))))
    .nop) .nop)
  (.sq (.ret (.and (.inst (.var 0) .str) (.cmp .eq (.var 0) (.var 1))))
  .nop)))))
def n__law_mixed : List Str := ["hand", "things", "left", "found"]
def i__law_mixed : IS :=
  (.sq (.asg2 (.nm 2) (.nm 3) (.bi .list true (.cs (.var 1) .nl)) (.lst true .nl))
  (.sq (.while (.cmp .gt (.bi .len false (.cs (.var 2) .nl)) (.int 0)) (.sq (.expr (.meth (.var 3) .append (.cs (.meth (.var 2) .pop (.cs (.call "_law_draw" (.cs (.var 0) (.cs (.bi .len false (.cs (.var 2) .nl)) .nl))) .nl)) .nl)))
    .nop))
  (.sq (.ret (.var 3))
  .nop)))
def n__law_web : List Str := ["table", "many", "ties", "one", "other"]
def i__law_web : IS :=
  (.sq (.asg2 (.nm 1) (.nm 2) (.bi .len false (.cs (.var 0) .nl)) (.lst false .nl))
  (.sq (.for [3] false (.range1 (.var 1)) (.sq (.asg (.nm 2) (.bin .add false (.var 2) (.lc false (.tup (.cs (.var 3) (.cs (.var 4) .nl))) [4] false (.range2 (.bin .add false (.var 3) (.int 1)) (.var 1)) true (.idx (.idx (.var 0) (.var 3)) (.var 4)) [4])))
    .nop))
  (.sq (.ret (.tup (.cs (.var 1) (.cs (.bi .tuple false (.cs (.var 2) .nl)) .nl))))
  .nop)))
def n__law_table : List Str := ["web", "found", "corner", "one", "other"]
def i__law_table : IS :=
  (.sq (.asg (.nm 1) (.lc false (.bin .mul true (.lst false (.cs (.bl false) .nl)) (.idx (.var 0) (.int 0))) [2] false (.range1 (.idx (.var 0) (.int 0))) false .nl [2]))
  (.sq (.for [3, 4] true (.idx (.var 0) (.int 1)) (.sq (.asg2 (.sub (.idx (.var 1) (.var 3)) (.var 4)) (.sub (.idx (.var 1) (.var 4)) (.var 3)) (.bl true) (.bl true))
    .nop))
  (.sq (.ret (.var 1))
  .nop)))
def n__law_random : List Str := ["hand", "many", "often", "found", "corner", "one", "other"]
def i__law_random : IS :=
  (.sq (.asg2 (.nm 2) (.nm 3) (.bin .add false (.int 1) (.call "_law_draw" (.cs (.var 0) (.cs (.int 4) .nl)))) (.lc false (.bin .mul true (.lst false (.cs (.bl false) .nl)) (.var 1)) [4] false (.range1 (.var 1)) false .nl [4]))
  (.sq (.for [5] false (.range1 (.var 1)) (.sq (.for [6] false (.range1 (.var 5)) (.sq (.ite (.cmp .lt (.call "_law_draw" (.cs (.var 0) (.cs (.int 5) .nl))) (.var 2)) (.sq (.asg2 (.sub (.idx (.var 3) (.var 5)) (.var 6)) (.sub (.idx (.var 3) (.var 6)) (.var 5)) (.bl true) (.bl true))
        .nop) .nop)
      .nop))
    .nop))
  (.sq (.ret (.var 3))
  .nop)))
def n__law_put_in : List Str := ["table", "corner", "inner", "many", "outer", "names", "found", "place", "one", "other"]
def i__law_put_in : IS :=
  (.sq (.asg (.nm 3) (.bi .len false (.cs (.var 0) .nl)))
  (.sq (.asg (.nm 4) (.bin .add false (.rng1 false (.var 3)) (.bin .mul false (.lst false (.cs (.var 1) .nl)) (.bin .sub false (.bi .len false (.cs (.var 2) .nl)) (.int 1)))))
  (.sq (.asg (.nm 5) (.bin .add false (.lst false (.cs (.var 1) .nl)) (.rng2 false (.var 3) (.bin .sub false (.bin .add false (.var 3) (.bi .len false (.cs (.var 2) .nl))) (.int 1)))))
  (.sq (.asg (.nm 6) (.lc false (.bin .mul true (.lst false (.cs (.bl false) .nl)) (.bi .len false (.cs (.var 4) .nl))) [7] false (.var 4) false .nl [7]))
  (.sq (.for [8] false (.range1 (.bi .len false (.cs (.var 4) .nl))) (.sq (.for [9] false (.range1 (.bi .len false (.cs (.var 4) .nl))) (.sq (.ite (.and (.cmp .isin (.var 8) (.var 5)) (.cmp .isin (.var 9) (.var 5))) (.sq (.asg (.sub (.idx (.var 6) (.var 8)) (.var 9)) (.idx (.idx (.var 2) (.meth (.var 5) .index (.cs (.var 8) .nl))) (.meth (.var 5) .index (.cs (.var 9) .nl))))
        .nop) (.sq (.ite (.cmp .ne (.var 8) (.var 9)) (.sq (.asg (.sub (.idx (.var 6) (.var 8)) (.var 9)) (.idx (.idx (.var 0) (.idx (.var 4) (.var 8))) (.idx (.var 4) (.var 9))))
          .nop) .nop)
        .nop))
      .nop))
    .nop))
  (.sq (.ret (.var 6))
  .nop))))))
def n__law_named : List Str := ["hand", "table", "names", "other", "one"]
def i__law_named : IS :=
  (.sq (.asg (.nm 2) (.call "_law_mixed" (.cs (.var 0) (.cs (.rng1 false (.bi .len false (.cs (.var 1) .nl))) .nl))))
  (.sq (.ret (.lc false (.lc false (.idx (.idx (.var 1) (.idx (.var 2) (.var 4))) (.idx (.var 2) (.var 3))) [3] false (.range1 (.bi .len false (.cs (.var 1) .nl))) false .nl [3]) [4] false (.range1 (.bi .len false (.cs (.var 1) .nl))) false .nl [4]))
  .nop))
def n__law_known : List Str := ["hand", "rows", "ties", "many", "pair"]
def i__law_known : IS :=
  (.sq (.asg (.nm 1) (.lst false (.cs (.lst false (.cs (.tup (.cs (.int 0) (.cs (.int 1) .nl))) (.cs (.tup (.cs (.int 1) (.cs (.int 2) .nl))) (.cs (.tup (.cs (.int 2) (.cs (.int 3) .nl))) .nl)))) (.cs (.lst false (.cs (.tup (.cs (.int 0) (.cs (.int 1) .nl))) (.cs (.tup (.cs (.int 1) (.cs (.int 2) .nl))) (.cs (.tup (.cs (.int 2) (.cs (.int 3) .nl))) (.cs (.tup (.cs (.int 3) (.cs (.int 4) .nl))) (.cs (.tup (.cs (.int 0) (.cs (.int 4) .nl))) .nl)))))) (.cs (.lst false (.cs (.tup (.cs (.int 0) (.cs (.int 1) .nl))) (.cs (.tup (.cs (.int 1) (.cs (.int 2) .nl))) (.cs (.tup (.cs (.int 0) (.cs (.int 2) .nl))) (.cs (.tup (.cs (.int 0) (.cs (.int 3) .nl))) (.cs (.tup (.cs (.int 1) (.cs (.int 4) .nl))) .nl)))))) .nl)))))
  (.sq (.asg (.nm 1) (.bin .add false (.var 1) (.lst false (.cs (.lst false (.cs (.tup (.cs (.int 0) (.cs (.int 1) .nl))) (.cs (.tup (.cs (.int 1) (.cs (.int 2) .nl))) (.cs (.tup (.cs (.int 2) (.cs (.int 3) .nl))) (.cs (.tup (.cs (.int 3) (.cs (.int 4) .nl))) (.cs (.tup (.cs (.int 4) (.cs (.int 5) .nl))) (.cs (.tup (.cs (.int 0) (.cs (.int 5) .nl))) .nl))))))) (.cs (.lst false (.cs (.tup (.cs (.int 0) (.cs (.int 1) .nl))) (.cs (.tup (.cs (.int 1) (.cs (.int 2) .nl))) (.cs (.tup (.cs (.int 2) (.cs (.int 3) .nl))) (.cs (.tup (.cs (.int 3) (.cs (.int 4) .nl))) (.cs (.tup (.cs (.int 4) (.cs (.int 5) .nl))) .nl)))))) .nl)))))
  (.sq (.asg (.nm 2) (.call "_law_some" (.cs (.var 0) (.cs (.var 1) .nl))))
  (.sq (.asg (.nm 3) (.bin .add false (.int 1) (.bi .max false (.cs (.lc false (.idx (.var 4) (.int 1)) [4] false (.var 2) false .nl [4]) .nl))))
  (.sq (.ret (.call "_law_table" (.cs (.tup (.cs (.var 3) (.cs (.bi .tuple false (.cs (.bi .sorted false (.cs (.var 2) .nl)) .nl)) .nl))) .nl)))
  .nop)))))
def n__law_nested : List Str := ["hand", "most", "found", "turn", "inner"]
def i__law_nested : IS :=
  (.sq (.asg (.nm 2) (.call "_law_random" (.cs (.var 0) (.cs (.bin .add false (.int 1) (.call "_law_draw" (.cs (.var 0) (.cs (.bi .min2 false (.cs (.int 3) (.cs (.var 1) .nl))) .nl)))) .nl))))
  (.sq (.for [3] false (.range1 (.call "_law_draw" (.cs (.var 0) (.cs (.int 5) .nl)))) (.sq (.asg (.nm 4) (.ite (.cmp .eq (.call "_law_draw" (.cs (.var 0) (.cs (.int 3) .nl))) (.int 0)) (.call "_law_known" (.cs (.var 0) .nl)) (.call "_law_random" (.cs (.var 0) (.cs (.bin .add false (.int 2) (.call "_law_draw" (.cs (.var 0) (.cs (.int 2) .nl)))) .nl)))))
    (.sq (.ite (.cmp .le (.bin .sub false (.bin .add false (.bi .len false (.cs (.var 2) .nl)) (.bi .len false (.cs (.var 4) .nl))) (.int 1)) (.var 1)) (.sq (.asg (.nm 2) (.call "_law_put_in" (.cs (.var 2) (.cs (.call "_law_draw" (.cs (.var 0) (.cs (.bi .len false (.cs (.var 2) .nl)) .nl))) (.cs (.var 4) .nl)))))
      .nop) .nop)
    .nop)))
  (.sq (.ret (.call "_law_named" (.cs (.var 0) (.cs (.var 2) .nl))))
  .nop)))
def n__law_any_web : List Str := ["hand", "most", "kind"]
def i__law_any_web : IS :=
  (.sq (.asg (.nm 2) (.call "_law_draw" (.cs (.var 0) (.cs (.int 3) .nl))))
  (.sq (.ite (.cmp .eq (.var 2) (.int 0)) (.sq (.ret (.call "_law_web" (.cs (.call "_law_random" (.cs (.var 0) (.cs (.bin .add false (.int 1) (.call "_law_draw" (.cs (.var 0) (.cs (.var 1) .nl)))) .nl))) .nl)))
    .nop) .nop)
  (.sq (.ite (.cmp .eq (.var 2) (.int 1)) (.sq (.ret (.call "_law_web" (.cs (.call "_law_nested" (.cs (.var 0) (.cs (.var 1) .nl))) .nl)))
    .nop) .nop)
  (.sq (.ret (.idx (.call "_law_order" (.cs (.var 0) (.cs (.var 1) .nl))) (.int 0)))
  .nop))))
def n__law_closed : List Str := ["table", "many", "middle", "one", "other"]
def i__law_closed : IS :=
  (.sq (.asg (.nm 1) (.bi .len false (.cs (.var 0) .nl)))
  (.sq (.for [2] false (.range1 (.var 1)) (.sq (.for [3] false (.range1 (.var 1)) (.sq (.ite (.idx (.idx (.var 0) (.var 3)) (.var 2)) (.sq (.for [4] false (.range1 (.var 1)) (.sq (.ite (.idx (.idx (.var 0) (.var 2)) (.var 4)) (.sq (.asg (.sub (.idx (.var 0) (.var 3)) (.var 4)) (.bl true))
            .nop) .nop)
          .nop))
        .nop) .nop)
      .nop))
    .nop))
  (.sq (.ret (.var 0))
  .nop)))
def n__law_order_table : List Str := ["hand", "most", "many", "kind", "first", "second", "often", "rows", "b", "a", "spans", "wide", "third"]
def i__law_order_table : IS :=
  (.sq (.asg2 (.nm 2) (.nm 3) (.bin .add false (.int 1) (.call "_law_draw" (.cs (.var 0) (.cs (.var 1) .nl)))) (.call "_law_draw" (.cs (.var 0) (.cs (.int 7) .nl))))
  (.sq (.asg2 (.nm 4) (.nm 5) (.call "_law_mixed" (.cs (.var 0) (.cs (.rng1 false (.var 2)) .nl))) (.call "_law_mixed" (.cs (.var 0) (.cs (.rng1 false (.var 2)) .nl))))
  (.sq (.ite (.cmp .eq (.var 3) (.int 0)) (.sq (.asg (.nm 6) (.bin .add false (.int 1) (.call "_law_draw" (.cs (.var 0) (.cs (.int 4) .nl)))))
    (.sq (.asg (.nm 7) (.lc false (.lc true (.and (.cmp .lt (.idx (.var 4) (.var 9)) (.idx (.var 4) (.var 8))) (.cmp .lt (.call "_law_draw" (.cs (.var 0) (.cs (.int 6) .nl))) (.var 6))) [8] false (.range1 (.var 2)) false .nl [8]) [9] false (.range1 (.var 2)) false .nl [9]))
    (.sq (.ret (.call "_law_closed" (.cs (.var 7) .nl)))
    .nop))) .nop)
  (.sq (.ite (.cmp .eq (.var 3) (.int 1)) (.sq (.ret (.lc false (.lc false (.and (.cmp .lt (.idx (.var 4) (.var 9)) (.idx (.var 4) (.var 8))) (.cmp .lt (.idx (.var 5) (.var 9)) (.idx (.var 5) (.var 8)))) [8] false (.range1 (.var 2)) false .nl [8]) [9] false (.range1 (.var 2)) false .nl [9]))
    .nop) .nop)
  (.sq (.ite (.cmp .eq (.var 3) (.int 2)) (.sq (.asg (.nm 10) (.lc false (.call "_law_draw" (.cs (.var 0) (.cs (.int 9) .nl))) [9] false (.range1 (.var 2)) false .nl [9]))
    (.sq (.asg (.nm 11) (.lc false (.call "_law_draw" (.cs (.var 0) (.cs (.int 5) .nl))) [9] false (.range1 (.var 2)) false .nl [9]))
    (.sq (.ret (.lc false (.lc false (.cmp .lt (.bin .add false (.idx (.var 10) (.var 9)) (.idx (.var 11) (.var 9))) (.idx (.var 10) (.var 8))) [8] false (.range1 (.var 2)) false .nl [8]) [9] false (.range1 (.var 2)) false .nl [9]))
    .nop))) .nop)
  (.sq (.ite (.cmp .eq (.var 3) (.int 3)) (.sq (.asg2 (.nm 10) (.nm 11) (.lc false (.call "_law_draw" (.cs (.var 0) (.cs (.int 9) .nl))) [9] false (.range1 (.var 2)) false .nl [9]) (.bin .add false (.int 1) (.call "_law_draw" (.cs (.var 0) (.cs (.int 4) .nl)))))
    (.sq (.ret (.lc false (.lc false (.cmp .le (.bin .add false (.idx (.var 10) (.var 9)) (.var 11)) (.idx (.var 10) (.var 8))) [8] false (.range1 (.var 2)) false .nl [8]) [9] false (.range1 (.var 2)) false .nl [9]))
    .nop)) .nop)
  (.sq (.ite (.cmp .eq (.var 3) (.int 4)) (.sq (.asg (.nm 10) (.lc false (.call "_law_draw" (.cs (.var 0) (.cs (.int 4) .nl))) [9] false (.range1 (.var 2)) false .nl [9]))
    (.sq (.ret (.lc false (.lc false (.cmp .lt (.idx (.var 10) (.var 9)) (.idx (.var 10) (.var 8))) [8] false (.range1 (.var 2)) false .nl [8]) [9] false (.range1 (.var 2)) false .nl [9]))
    .nop)) .nop)
  (.sq (.ite (.cmp .eq (.var 3) (.int 5)) (.sq (.ret (.call "_law_put_behind" (.cs (.var 0) (.cs (.var 2) .nl))))
    .nop) .nop)
  (.sq (.asg (.nm 12) (.call "_law_mixed" (.cs (.var 0) (.cs (.rng1 false (.var 2)) .nl))))
  (.sq (.ret (.lc false (.lc false (.and (.cmp .lt (.idx (.var 4) (.var 9)) (.idx (.var 4) (.var 8))) (.and (.cmp .lt (.idx (.var 5) (.var 9)) (.idx (.var 5) (.var 8))) (.cmp .lt (.idx (.var 12) (.var 9)) (.idx (.var 12) (.var 8))))) [8] false (.range1 (.var 2)) false .nl [8]) [9] false (.range1 (.var 2)) false .nl [9]))
  .nop))))))))))
def n__law_put_behind : List Str := ["hand", "many", "lots", "found", "corner", "at", "one", "other"]
def i__law_put_behind : IS :=
  (.sq (.asg2 (.nm 2) (.nm 3) (.lc false (.lst false (.cs (.var 4) .nl)) [4] false (.call "_law_mixed" (.cs (.var 0) (.cs (.rng1 false (.var 1)) .nl))) false .nl [4]) (.lc false (.bin .mul true (.lst false (.cs (.bl false) .nl)) (.var 1)) [4] false (.range1 (.var 1)) false .nl [4]))
  (.sq (.while (.cmp .gt (.bi .len false (.cs (.var 2) .nl)) (.int 1)) (.sq (.asg (.nm 5) (.call "_law_draw" (.cs (.var 0) (.cs (.bin .sub false (.bi .len false (.cs (.var 2) .nl)) (.int 1)) .nl))))
    (.sq (.ite (.cmp .eq (.call "_law_draw" (.cs (.var 0) (.cs (.int 2) .nl))) (.int 0)) (.sq (.for [6] false (.idx (.var 2) (.var 5)) (.sq (.for [7] false (.idx (.var 2) (.bin .add false (.var 5) (.int 1))) (.sq (.asg (.sub (.idx (.var 3) (.var 6)) (.var 7)) (.bl true))
          .nop))
        .nop))
      .nop) .nop)
    (.sq (.asg (.nm 2) (.bin .add false (.bin .add false (.slice false (.var 2) .nl (.var 5)) (.lst false (.cs (.bin .add false (.idx (.var 2) (.var 5)) (.idx (.var 2) (.bin .add false (.var 5) (.int 1)))) .nl))) (.slice false (.var 2) (.bin .add false (.var 5) (.int 2)) .nl)))
    .nop))))
  (.sq (.ret (.var 3))
  .nop)))
def n__law_letters : List Str := ["web", "table", "one", "other"]
def i__law_letters : IS :=
  (.sq (.ret (.bi .tuple false (.cs (.lc false (.ite (.idx (.idx (.var 1) (.var 2)) (.var 3)) (.str ">") (.str "<")) [2, 3] true (.idx (.var 0) (.int 1)) false .nl [2, 3]) .nl)))
  .nop)
def n__law_order : List Str := ["hand", "most", "table", "many", "web", "other", "one"]
def i__law_order : IS :=
  (.sq (.asg (.nm 2) (.call "_law_order_table" (.cs (.var 0) (.cs (.var 1) .nl))))
  (.sq (.asg (.nm 3) (.bi .len false (.cs (.var 2) .nl)))
  (.sq (.asg (.nm 4) (.call "_law_web" (.cs (.lc false (.lc false (.or (.idx (.idx (.var 2) (.var 6)) (.var 5)) (.idx (.idx (.var 2) (.var 5)) (.var 6))) [5] false (.range1 (.var 3)) false .nl [5]) [6] false (.range1 (.var 3)) false .nl [6]) .nl)))
  (.sq (.ret (.tup (.cs (.var 4) (.cs (.call "_law_letters" (.cs (.var 4) (.cs (.var 2) .nl))) (.cs (.var 2) .nl)))))
  .nop))))
def n__law_arrow_table : List Str := ["web", "letters", "found", "corner", "at", "one", "other"]
def i__law_arrow_table : IS :=
  (.sq (.asg (.nm 2) (.lc false (.bin .mul true (.lst false (.cs (.bl false) .nl)) (.idx (.var 0) (.int 0))) [3] false (.range1 (.idx (.var 0) (.int 0))) false .nl [3]))
  (.sq (.for [4] false (.range1 (.bi .len false (.cs (.var 1) .nl))) (.sq (.unp [5, 6] (.idx (.idx (.var 0) (.int 1)) (.var 4)))
    (.sq (.ite (.cmp .eq (.idx (.var 1) (.var 4)) (.str ">")) (.sq (.asg (.sub (.idx (.var 2) (.var 5)) (.var 6)) (.bl true))
      .nop) (.sq (.asg (.sub (.idx (.var 2) (.var 6)) (.var 5)) (.bl true))
      .nop))
    .nop)))
  (.sq (.ret (.var 2))
  .nop)))
def n__law_goes_on : List Str := ["table", "many", "one", "two", "three"]
def i__law_goes_on : IS :=
  (.sq (.asg (.nm 1) (.bi .len false (.cs (.var 0) .nl)))
  (.sq (.for [2] false (.range1 (.var 1)) (.sq (.for [3] false (.range1 (.var 1)) (.sq (.ite (.and (.idx (.idx (.var 0) (.var 2)) (.var 3)) (.bi .any false (.cs (.lc false (.and (.idx (.idx (.var 0) (.var 3)) (.var 4)) (.not (.idx (.idx (.var 0) (.var 2)) (.var 4)))) [4] false (.range1 (.var 1)) false .nl [4]) .nl))) (.sq (.ret (.bl false))
        .nop) .nop)
      .nop))
    .nop))
  (.sq (.ret (.bl true))
  .nop)))
def n__law_are_arrows : List Str := ["web", "thing", "letter"]
def i__law_are_arrows : IS :=
  (.sq (.ite (.or (.not (.inst (.var 1) .tuple)) (.cmp .ne (.bi .len false (.cs (.var 1) .nl)) (.bi .len false (.cs (.idx (.var 0) (.int 1)) .nl)))) (.sq (.ret (.bl false))
    .nop) .nop)
  (.sq (.ite (.not (.bi .all false (.cs (.lc false (.and (.inst (.var 2) .str) (.cmp .isin (.var 2) (.lst false (.cs (.str ">") (.cs (.str "<") .nl))))) [2] false (.var 1) false .nl [2]) .nl))) (.sq (.ret (.bl false))
    .nop) .nop)
  (.sq (.ret (.call "_law_goes_on" (.cs (.call "_law_arrow_table" (.cs (.var 0) (.cs (.var 1) .nl))) .nl)))
  .nop)))
def n__law_no_web : List Str := ["hand", "web", "many", "ties", "odd"]
def i__law_no_web : IS :=
  (.sq (.unp [2, 3] (.var 1))
  (.sq (.asg (.nm 4) (.lst false (.cs (.tup (.cs (.int 0) (.cs (.tup .nl) .nl))) (.cs (.tup (.cs (.int 25) (.cs (.tup .nl) .nl))) (.cs (.tup (.cs (.bl true) (.cs (.tup .nl) .nl))) (.cs (.tup (.cs .non (.cs (.tup .nl) .nl))) (.cs (.tup (.cs (.str "3") (.cs (.tup .nl) .nl))) (.cs (.tup (.cs (.neg (.int 1)) (.cs (.tup .nl) .nl))) (.cs (.tup (.cs (.var 2) (.cs .non .nl))) (.cs (.tup (.cs (.var 2) (.cs (.bi .list false (.cs (.var 3) .nl)) .nl))) (.cs (.lst false (.cs (.var 2) (.cs (.var 3) .nl))) (.cs (.tup (.cs (.var 2) .nl)) (.cs (.tup (.cs (.var 2) (.cs (.var 3) (.cs (.int 0) .nl)))) .nl)))))))))))))
  (.sq (.asg (.nm 4) (.bin .add false (.var 4) (.lst false (.cs (.tup (.cs (.var 2) (.cs (.bin .add false (.var 3) (.tup (.cs (.tup (.cs (.int 0) (.cs (.var 2) .nl))) .nl))) .nl))) (.cs (.tup (.cs (.var 2) (.cs (.bin .add false (.tup (.cs (.tup (.cs (.int 0) (.cs (.int 0) .nl))) .nl)) (.var 3)) .nl))) (.cs (.tup (.cs (.var 2) (.cs (.bin .add false (.tup (.cs (.tup (.cs (.int 1) (.cs (.int 0) .nl))) .nl)) (.var 3)) .nl))) (.cs (.tup (.cs (.var 2) (.cs (.bin .add false (.var 3) (.tup (.cs (.tup (.cs (.neg (.int 1)) (.cs (.int 0) .nl))) .nl))) .nl))) (.cs .non (.cs (.str "web") (.cs (.dnew false) (.cs (.int 7) (.cs (.tup .nl) .nl))))))))))))
  (.sq (.ite (.cmp .gt (.bi .len false (.cs (.var 3) .nl)) (.int 0)) (.sq (.asg (.nm 4) (.bin .add false (.var 4) (.lst false (.cs (.tup (.cs (.var 2) (.cs (.bin .add false (.var 3) (.slice false (.var 3) .nl (.int 1))) .nl))) (.cs (.tup (.cs (.var 2) (.cs (.bin .add false (.slice false (.var 3) .nl (.int 1)) (.var 3)) .nl))) (.cs (.tup (.cs (.var 2) (.cs (.bin .add false (.tup (.cs (.bi .list false (.cs (.idx (.var 3) (.int 0)) .nl)) .nl)) (.slice false (.var 3) (.int 1) .nl)) .nl))) (.cs (.tup (.cs (.var 2) (.cs (.bin .add false (.tup (.cs (.bin .add false (.idx (.var 3) (.int 0)) (.tup (.cs (.int 0) .nl))) .nl)) (.slice false (.var 3) (.int 1) .nl)) .nl))) .nl)))))))
    .nop) .nop)
  (.sq (.ret (.call "_law_some" (.cs (.var 0) (.cs (.var 4) .nl))))
  .nop)))))
def n__law_no_arrows : List Str := ["hand", "web", "letters", "odd", "at"]
def i__law_no_arrows : IS :=
  (.sq (.asg (.nm 3) (.lst false (.cs (.bi .list false (.cs (.var 2) .nl)) (.cs (.bin .add false (.var 2) (.tup (.cs (.str ">") .nl))) (.cs .non (.cs (.str "?") (.cs (.int 0) (.cs (.dnew false) (.cs (.bin .add false (.var 2) (.tup (.cs (.str "<") (.cs (.str ">") .nl)))) .nl)))))))))
  (.sq (.ite (.cmp .gt (.bi .len false (.cs (.var 2) .nl)) (.int 0)) (.sq (.asg (.nm 4) (.call "_law_draw" (.cs (.var 0) (.cs (.bi .len false (.cs (.var 2) .nl)) .nl))))
    (.sq (.asg (.nm 3) (.bin .add false (.var 3) (.lst false (.cs (.slice false (.var 2) (.int 1) .nl) (.cs (.bin .add false (.bin .add false (.slice false (.var 2) .nl (.var 4)) (.tup (.cs (.call "_law_some" (.cs (.var 0) (.cs (.lst false (.cs (.str "") (.cs (.str ">>") (.cs .non (.cs (.int 1) (.cs (.str "x") (.cs (.tup (.cs (.str ">") .nl)) .nl))))))) .nl))) .nl))) (.slice false (.var 2) (.bin .add false (.var 4) (.int 1)) .nl)) (.cs (.tup .nl) .nl))))))
    .nop)) .nop)
  (.sq (.ret (.call "_law_some" (.cs (.var 0) (.cs (.var 3) .nl))))
  .nop)))
def n__law_lined : List Str := ["rows", "word", "row"]
def i__law_lined : IS :=
  (.sq (.ret (.join (.str "") (.lc false (.bin .add false (.join (.str " ") (.lc false (.bi .str false (.cs (.var 1) .nl)) [1] false (.var 2) false .nl [1])) (.str "\n")) [2] false (.var 0) false .nl [2])))
  .nop)
def n__law_number_of : List Str := ["word", "sign"]
def i__law_number_of : IS :=
  (.sq (.ite (.or (.cmp .lt (.bi .len false (.cs (.var 0) .nl)) (.int 1)) (.or (.cmp .gt (.bi .len false (.cs (.var 0) .nl)) (.int 4)) (.not (.bi .all false (.cs (.lc false (.cmp .isin (.var 1) (.str "0123456789")) [1] false (.var 0) false .nl [1]) .nl))))) (.sq (.ret .non)
    .nop) .nop)
  (.sq (.ret (.ite (.or (.cmp .eq (.var 0) (.str "0")) (.cmp .ne (.idx (.var 0) (.int 0)) (.str "0"))) (.bi .int false (.cs (.var 0) .nl)) .non))
  .nop))
def n__law_pair : List Str := ["line", "head", "words", "numbers", "word"]
def i__law_pair : IS :=
  (.sq (.asg (.nm 2) (.split false (.var 0) (.str " ")))
  (.sq (.asg (.nm 3) (.lc false (.call "_law_number_of" (.cs (.var 4) .nl)) [4] false (.slice false (.var 2) (.int 1) .nl) false .nl [4]))
  (.sq (.ret (.ite (.or (.cmp .ne (.idx (.var 2) (.int 0)) (.var 1)) (.or (.cmp .ne (.bi .len false (.cs (.var 3) .nl)) (.int 2)) (.cmp .isin .non (.var 3)))) .non (.bi .tuple false (.cs (.var 3) .nl))))
  .nop)))
def n__law_read : List Str := ["text", "head", "word", "rows", "lines", "tail", "first", "found", "at", "pair"]
def i__law_read : IS :=
  (.sq (.asg (.nm 3) (.split false (.var 0) (.str "\n")))
  (.sq (.asg2 (.nm 4) (.nm 5) (.slice false (.var 3) .nl (.bin .sub false (.bi .len false (.cs (.var 3) .nl)) (.int 1))) (.idx (.var 3) (.bin .sub false (.bi .len false (.cs (.var 3) .nl)) (.int 1))))
  (.sq (.asg (.nm 6) (.ite (.cmp .gt (.bi .len false (.cs (.var 4) .nl)) (.int 0)) (.call "_law_pair" (.cs (.idx (.var 4) (.int 0)) (.cs (.var 1) .nl))) .non))
  (.sq (.ite (.cmp .is (.var 6) .non) (.sq (.ret (.int 1))
    .nop) .nop)
  (.sq (.asg (.nm 7) (.lst true .nl))
  (.sq (.for [8] false (.range2 (.int 1) (.bin .add false (.bi .min2 false (.cs (.idx (.var 6) (.int 1)) (.cs (.bi .len false (.cs (.var 4) .nl)) .nl))) (.int 1))) (.sq (.asg (.nm 9) (.ite (.cmp .lt (.var 8) (.bi .len false (.cs (.var 4) .nl))) (.call "_law_pair" (.cs (.idx (.var 4) (.var 8)) (.cs (.var 2) .nl))) .non))
    (.sq (.ite (.cmp .is (.var 9) .non) (.sq (.ret (.bin .add false (.var 8) (.int 1)))
      .nop) .nop)
    (.sq (.expr (.meth (.var 7) .append (.cs (.var 9) .nl)))
    .nop))))
  (.sq (.ret (.ite (.and (.cmp .eq (.bi .len false (.cs (.var 4) .nl)) (.bin .add false (.idx (.var 6) (.int 1)) (.int 1))) (.cmp .eq (.var 5) (.str ""))) (.tup (.cs (.idx (.var 6) (.int 0)) (.cs (.bi .tuple false (.cs (.var 7) .nl)) .nl))) (.bin .add false (.idx (.var 6) (.int 1)) (.int 2))))
  .nop)))))))
def n__law_is_web : List Str := ["thing", "many", "ties", "pair", "at"]
def i__law_is_web : IS :=
  (.sq (.unp [1, 2] (.var 0))
  (.sq (.ite (.or (.not (.chain .le .le (.int 1) (.var 1) (.int 24))) (.not (.bi .all false (.cs (.lc false (.chain3 .le .lt .lt (.int 0) (.idx (.var 3) (.int 0)) (.idx (.var 3) (.int 1)) (.var 1)) [3] false (.var 2) false .nl [3]) .nl)))) (.sq (.ret (.bl false))
    .nop) .nop)
  (.sq (.ret (.bi .all false (.cs (.lc false (.cmp .lt (.idx (.var 2) (.bin .sub false (.var 4) (.int 1))) (.idx (.var 2) (.var 4))) [4] false (.range2 (.int 1) (.bi .len false (.cs (.var 2) .nl))) false .nl [4]) .nl)))
  .nop)))
def n__law_due : List Str := ["kind", "text", "told", "web", "pair", "letters"]
def i__law_due : IS :=
  (.sq (.asg (.nm 2) (.call "_law_read" (.cs (.var 1) (.cs (.idx (.lst false (.cs (.str "web") (.cs (.str "arrows") .nl))) (.var 0)) (.cs (.idx (.lst false (.cs (.str "tie") (.cs (.str "arrow") .nl))) (.var 0)) .nl)))))
  (.sq (.ite (.inst (.var 2) .int) (.sq (.ret (.lst false (.cs (.str "text") (.cs (.var 2) .nl))))
    .nop) .nop)
  (.sq (.asg (.nm 3) (.ite (.cmp .eq (.var 0) (.int 0)) (.var 2) (.tup (.cs (.idx (.var 2) (.int 0)) (.cs (.bi .tuple false (.cs (.lc false (.tup (.cs (.bi .min false (.cs (.var 4) .nl)) (.cs (.bi .max false (.cs (.var 4) .nl)) .nl))) [4] false (.idx (.var 2) (.int 1)) false .nl [4]) .nl)) .nl)))))
  (.sq (.ite (.not (.call "_law_is_web" (.cs (.var 3) .nl))) (.sq (.ret (.lst false (.cs (.str "web") .nl)))
    .nop) .nop)
  (.sq (.asg (.nm 5) (.bi .tuple false (.cs (.lc false (.ite (.cmp .lt (.idx (.var 4) (.int 0)) (.idx (.var 4) (.int 1))) (.str ">") (.str "<")) [4] false (.idx (.var 2) (.int 1)) false .nl [4]) .nl)))
  (.sq (.ite (.and (.cmp .eq (.var 0) (.int 1)) (.not (.call "_law_are_arrows" (.cs (.var 3) (.cs (.var 5) .nl))))) (.sq (.ret (.lst false (.cs (.str "arrows") .nl)))
    .nop) .nop)
  (.sq (.ret (.lst false (.cs (.str "told") (.cs (.ite (.cmp .eq (.var 0) (.int 0)) (.var 3) (.tup (.cs (.var 3) (.cs (.var 5) .nl)))) .nl))))
  .nop)))))))
def n__law_outcome : List Str := ["kind", "text", "e"]
def i__law_outcome : IS :=
  (.sq (.try (.sq (.ret (.lst false (.cs (.str "told") (.cs (.ite (.cmp .eq (.var 0) (.int 0)) (.call "read_web" (.cs (.var 1) .nl)) (.call "read_arrows" (.cs (.var 1) .nl))) .nl))))
    .nop) (.hfld "BadText" 2 "text" "place" (.hcons "NoWeb" (some 2) (.sq (.ret (.lst false (.cs (.str "web") .nl)))
    .nop) (.hcons "NoArrows" (some 2) (.sq (.ret (.lst false (.cs (.str "arrows") .nl)))
    .nop) (.hcons "ArrowError" none (.sq (.ret (.lst false (.cs (.str "other") .nl)))
    .nop) .hnil)))))
  .nop)
def n__law_bent : List Str := ["hand", "text", "at", "kind", "rows", "line", "words"]
def i__law_bent : IS :=
  (.sq (.asg2 (.nm 2) (.nm 3) (.call "_law_draw" (.cs (.var 0) (.cs (.bi .len false (.cs (.var 1) .nl)) .nl))) (.call "_law_draw" (.cs (.var 0) (.cs (.int 6) .nl))))
  (.sq (.ite (.cmp .eq (.var 3) (.int 0)) (.sq (.ret (.bin .add false (.slice false (.var 1) .nl (.var 2)) (.slice false (.var 1) (.bin .add false (.var 2) (.int 1)) .nl)))
    .nop) .nop)
  (.sq (.ite (.cmp .eq (.var 3) (.int 1)) (.sq (.ret (.bin .add false (.bin .add false (.slice false (.var 1) .nl (.var 2)) (.call "_law_some" (.cs (.var 0) (.cs (.lst false (.cs (.str "\n") (.cs (.str " ") (.cs (.str "0") (.cs (.str "7") (.cs (.str "x") (.cs (.str "tie") (.cs (.str "-") (.cs (.str "1") .nl))))))))) .nl)))) (.slice false (.var 1) (.var 2) .nl)))
    .nop) .nop)
  (.sq (.asg (.nm 4) (.split false (.var 1) (.str "\n")))
  (.sq (.asg (.nm 5) (.call "_law_draw" (.cs (.var 0) (.cs (.bi .len false (.cs (.var 4) .nl)) .nl))))
  (.sq (.ite (.cmp .eq (.var 3) (.int 2)) (.sq (.ret (.join (.str "\n") (.bin .add false (.slice false (.var 4) .nl (.var 5)) (.slice false (.var 4) (.bin .add false (.var 5) (.int 1)) .nl))))
    .nop) .nop)
  (.sq (.ite (.cmp .eq (.var 3) (.int 3)) (.sq (.ret (.join (.str "\n") (.bin .add false (.bin .add false (.slice false (.var 4) .nl (.var 5)) (.slice false (.var 4) (.var 5) (.bin .add false (.var 5) (.int 1)))) (.slice false (.var 4) (.var 5) .nl))))
    .nop) .nop)
  (.sq (.asg (.nm 6) (.split false (.idx (.var 4) (.var 5)) (.str " ")))
  (.sq (.ite (.and (.cmp .eq (.var 3) (.int 4)) (.cmp .eq (.bi .len false (.cs (.var 6) .nl)) (.int 3))) (.sq (.ret (.join (.str "\n") (.bin .add false (.bin .add false (.slice false (.var 4) .nl (.var 5)) (.lst false (.cs (.join (.str " ") (.lst false (.cs (.idx (.var 6) (.int 0)) (.cs (.idx (.var 6) (.int 2)) (.cs (.idx (.var 6) (.int 1)) .nl))))) .nl))) (.slice false (.var 4) (.bin .add false (.var 5) (.int 1)) .nl))))
    .nop) .nop)
  (.sq (.ret (.bin .add false (.var 1) (.call "_law_some" (.cs (.var 0) (.cs (.lst false (.cs (.str "\n") (.cs (.str "x") (.cs (.str "web 1 0\n") (.cs (.str " ") .nl))))) .nl)))))
  .nop))))))))))
def n_law : List Str := ["script", "hand", "turn", "web", "order", "arrows", "table", "one", "pair", "rows", "at", "other", "again", "kind", "text", "e"]
def i_law : IS :=
  (.sq (.asg (.nm 1) (.call "_law_hand" (.cs (.var 0) .nl)))
  (.sq (.for [2] false (.range1 (.int 5)) (.sq (.asg (.nm 3) (.call "_law_any_web" (.cs (.var 1) (.cs (.idx (.lst false (.cs (.int 5) (.cs (.int 9) (.cs (.int 24) .nl)))) (.call "_law_draw" (.cs (.var 1) (.cs (.int 3) .nl)))) .nl))))
    (.sq (.unp [4, 5, 6] (.call "_law_order" (.cs (.var 1) (.cs (.idx (.lst false (.cs (.int 5) (.cs (.int 12) (.cs (.int 24) .nl)))) (.call "_law_draw" (.cs (.var 1) (.cs (.int 3) .nl)))) .nl))))
    (.sq (.asg (.nm 7) (.call "_law_lined" (.cs (.bin .add false (.lst false (.cs (.tup (.cs (.str "web") (.cs (.idx (.var 3) (.int 0)) (.cs (.bi .len false (.cs (.idx (.var 3) (.int 1)) .nl)) .nl)))) .nl)) (.lc false (.bin .add false (.tup (.cs (.str "tie") .nl)) (.var 8)) [8] false (.idx (.var 3) (.int 1)) false .nl [8])) .nl)))
    (.sq (.asg (.nm 9) (.lc false (.bin .add false (.tup (.cs (.str "arrow") .nl)) (.ite (.cmp .eq (.idx (.var 5) (.var 10)) (.str ">")) (.idx (.idx (.var 4) (.int 1)) (.var 10)) (.rev false (.idx (.idx (.var 4) (.int 1)) (.var 10))))) [10] false (.range1 (.bi .len false (.cs (.var 5) .nl))) false .nl [10]))
    (.sq (.asg (.nm 11) (.call "_law_lined" (.cs (.bin .add false (.lst false (.cs (.tup (.cs (.str "arrows") (.cs (.idx (.var 4) (.int 0)) (.cs (.bi .len false (.cs (.idx (.var 4) (.int 1)) .nl)) .nl)))) .nl)) (.var 9)) .nl)))
    (.sq (.ite (.or (.not (.call "_law_kept" (.cs (.call "web_text" (.cs (.var 3) .nl)) (.cs (.var 7) .nl)))) (.not (.call "_law_kept" (.cs (.call "read_web" (.cs (.var 7) .nl)) (.cs (.var 3) .nl))))) (.sq (.ret (.bl false))
      .nop) .nop)
    (.sq (.ite (.or (.not (.call "_law_kept" (.cs (.call "arrows_text" (.cs (.var 4) (.cs (.var 5) .nl))) (.cs (.var 11) .nl)))) (.not (.call "_law_kept" (.cs (.call "read_arrows" (.cs (.var 11) .nl)) (.cs (.tup (.cs (.var 4) (.cs (.var 5) .nl))) .nl))))) (.sq (.ret (.bl false))
      .nop) .nop)
    (.sq (.for [12] false (.range1 (.int 8)) (.sq (.asg (.nm 13) (.call "_law_draw" (.cs (.var 1) (.cs (.int 2) .nl))))
      (.sq (.asg (.nm 14) (.call "_law_bent" (.cs (.var 1) (.cs (.idx (.lst false (.cs (.var 7) (.cs (.var 11) .nl))) (.var 13)) .nl))))
      (.sq (.ite (.not (.call "_law_kept" (.cs (.call "_law_outcome" (.cs (.var 13) (.cs (.var 14) .nl))) (.cs (.call "_law_due" (.cs (.var 13) (.cs (.var 14) .nl))) .nl)))) (.sq (.ret (.bl false))
        .nop) .nop)
      .nop))))
    (.sq (.for [13] false (.range1 (.int 2)) (.sq (.ite (.not (.call "_law_kept" (.cs (.call "_law_outcome" (.cs (.var 13) (.cs (.call "_law_some" (.cs (.var 1) (.cs (.lst false (.cs .non (.cs (.int 5) (.cs (.lst false (.cs (.str "web 1 0") .nl)) (.cs (.tup (.cs (.str "web") .nl)) (.cs (.dnew false) .nl)))))) .nl))) .nl))) (.cs (.lst false (.cs (.str "text") (.cs (.int 0) .nl))) .nl)))) (.sq (.ret (.bl false))
        .nop) .nop)
      .nop))
    (.sq (.for [13] false (.range1 (.int 2)) (.sq (.try (.sq (.ite (.cmp .eq (.var 13) (.int 0)) (.sq (.expr (.call "web_text" (.cs (.call "_law_no_web" (.cs (.var 1) (.cs (.var 3) .nl))) .nl)))
          .nop) (.sq (.expr (.call "arrows_text" (.cs (.call "_law_no_web" (.cs (.var 1) (.cs (.var 3) .nl))) (.cs (.tup .nl) .nl))))
          .nop))
        (.sq (.ret (.bl false))
        .nop)) (.hcons "NoWeb" (some 15) (.sq (.asg (.nm 9) (.lst false .nl))
        .nop) (.hcons "ArrowError" none (.sq (.ret (.bl false))
        .nop) .hnil)))
      .nop))
    (.sq (.try (.sq (.expr (.call "arrows_text" (.cs (.var 4) (.cs (.call "_law_no_arrows" (.cs (.var 1) (.cs (.var 4) (.cs (.var 5) .nl)))) .nl))))
      (.sq (.ret (.bl false))
      .nop)) (.hcons "NoArrows" (some 15) (.sq (.asg (.nm 9) (.lst false .nl))
      .nop) (.hcons "ArrowError" none (.sq (.ret (.bl false))
      .nop) .hnil)))
    .nop))))))))))))
  (.sq (.ret (.bl true))
  .nop)))
theorem sc_is_integer : FnScope n_is_integer ["thing"] (defScope Hd.s_is_integer) := ⟨by kernel_rfl, by kernel_rfl, by kernel_rfl, by decide +kernel, by kernel_rfl, by decide +kernel, by decide +kernel⟩
theorem ck_is_integer : chkB i_is_integer ⟨n_is_integer, defScope Hd.s_is_integer, none, true, ["NoWeb", "NoArrows", "BadText", "ArrowError"]⟩ (defBody Hd.s_is_integer) = true := by decide +kernel
theorem sc_is_between : FnScope n_is_between ["thing", "least", "greatest"] (defScope Hd.s_is_between) := ⟨by kernel_rfl, by kernel_rfl, by kernel_rfl, by decide +kernel, by kernel_rfl, by decide +kernel, by decide +kernel⟩
theorem ck_is_between : chkB i_is_between ⟨n_is_between, defScope Hd.s_is_between, none, true, ["NoWeb", "NoArrows", "BadText", "ArrowError"]⟩ (defBody Hd.s_is_between) = true := by decide +kernel
theorem sc_is_tie : FnScope n_is_tie ["thing", "many"] (defScope Hd.s_is_tie) := ⟨by kernel_rfl, by kernel_rfl, by kernel_rfl, by decide +kernel, by kernel_rfl, by decide +kernel, by decide +kernel⟩
theorem ck_is_tie : chkB i_is_tie ⟨n_is_tie, defScope Hd.s_is_tie, none, true, ["NoWeb", "NoArrows", "BadText", "ArrowError"]⟩ (defBody Hd.s_is_tie) = true := by decide +kernel
theorem sc_are_ties : FnScope n_are_ties ["thing", "many"] (defScope Hd.s_are_ties) := ⟨by kernel_rfl, by kernel_rfl, by kernel_rfl, by decide +kernel, by kernel_rfl, by decide +kernel, by decide +kernel⟩
theorem ck_are_ties : chkB i_are_ties ⟨n_are_ties, defScope Hd.s_are_ties, none, true, ["NoWeb", "NoArrows", "BadText", "ArrowError"]⟩ (defBody Hd.s_are_ties) = true := by decide +kernel
theorem sc_is_web : FnScope n_is_web ["thing"] (defScope Hd.s_is_web) := ⟨by kernel_rfl, by kernel_rfl, by kernel_rfl, by decide +kernel, by kernel_rfl, by decide +kernel, by decide +kernel⟩
theorem ck_is_web : chkB i_is_web ⟨n_is_web, defScope Hd.s_is_web, none, true, ["NoWeb", "NoArrows", "BadText", "ArrowError"]⟩ (defBody Hd.s_is_web) = true := by decide +kernel
theorem sc_need_web : FnScope n_need_web ["thing"] (defScope Hd.s_need_web) := ⟨by kernel_rfl, by kernel_rfl, by kernel_rfl, by decide +kernel, by kernel_rfl, by decide +kernel, by decide +kernel⟩
theorem ck_need_web : chkB i_need_web ⟨n_need_web, defScope Hd.s_need_web, none, true, ["NoWeb", "NoArrows", "BadText", "ArrowError"]⟩ (defBody Hd.s_need_web) = true := by decide +kernel
theorem sc_are_letters : FnScope n_are_letters ["web", "thing"] (defScope Hd.s_are_letters) := ⟨by kernel_rfl, by kernel_rfl, by kernel_rfl, by decide +kernel, by kernel_rfl, by decide +kernel, by decide +kernel⟩
theorem ck_are_letters : chkB i_are_letters ⟨n_are_letters, defScope Hd.s_are_letters, none, true, ["NoWeb", "NoArrows", "BadText", "ArrowError"]⟩ (defBody Hd.s_are_letters) = true := by decide +kernel
theorem sc_behind_of : FnScope n_behind_of ["web", "letters"] (defScope Hd.s_behind_of) := ⟨by kernel_rfl, by kernel_rfl, by kernel_rfl, by decide +kernel, by kernel_rfl, by decide +kernel, by decide +kernel⟩
theorem ck_behind_of : chkB i_behind_of ⟨n_behind_of, defScope Hd.s_behind_of, none, true, ["NoWeb", "NoArrows", "BadText", "ArrowError"]⟩ (defBody Hd.s_behind_of) = true := by decide +kernel
theorem sc_are_arrows_of : FnScope n_are_arrows_of ["web", "thing"] (defScope Hd.s_are_arrows_of) := ⟨by kernel_rfl, by kernel_rfl, by kernel_rfl, by decide +kernel, by kernel_rfl, by decide +kernel, by decide +kernel⟩
theorem ck_are_arrows_of : chkB i_are_arrows_of ⟨n_are_arrows_of, defScope Hd.s_are_arrows_of, none, true, ["NoWeb", "NoArrows", "BadText", "ArrowError"]⟩ (defBody Hd.s_are_arrows_of) = true := by decide +kernel
theorem sc_need_arrows : FnScope n_need_arrows ["web", "thing"] (defScope Hd.s_need_arrows) := ⟨by kernel_rfl, by kernel_rfl, by kernel_rfl, by decide +kernel, by kernel_rfl, by decide +kernel, by decide +kernel⟩
theorem ck_need_arrows : chkB i_need_arrows ⟨n_need_arrows, defScope Hd.s_need_arrows, none, true, ["NoWeb", "NoArrows", "BadText", "ArrowError"]⟩ (defBody Hd.s_need_arrows) = true := by decide +kernel
theorem sc_lined : FnScope n_lined ["rows"] (defScope Hd.s_lined) := ⟨by kernel_rfl, by kernel_rfl, by kernel_rfl, by decide +kernel, by kernel_rfl, by decide +kernel, by decide +kernel⟩
theorem ck_lined : chkB i_lined ⟨n_lined, defScope Hd.s_lined, none, true, ["NoWeb", "NoArrows", "BadText", "ArrowError"]⟩ (defBody Hd.s_lined) = true := by decide +kernel
theorem sc_web_text : FnScope n_web_text ["web"] (defScope Hd.s_web_text) := ⟨by kernel_rfl, by kernel_rfl, by kernel_rfl, by decide +kernel, by kernel_rfl, by decide +kernel, by decide +kernel⟩
theorem ck_web_text : chkB i_web_text ⟨n_web_text, defScope Hd.s_web_text, none, true, ["NoWeb", "NoArrows", "BadText", "ArrowError"]⟩ (defBody Hd.s_web_text) = true := by decide +kernel
theorem sc_arrows_text : FnScope n_arrows_text ["web", "arrows"] (defScope Hd.s_arrows_text) := ⟨by kernel_rfl, by kernel_rfl, by kernel_rfl, by decide +kernel, by kernel_rfl, by decide +kernel, by decide +kernel⟩
theorem ck_arrows_text : chkB i_arrows_text ⟨n_arrows_text, defScope Hd.s_arrows_text, none, true, ["NoWeb", "NoArrows", "BadText", "ArrowError"]⟩ (defBody Hd.s_arrows_text) = true := by decide +kernel
theorem sc_number_of : FnScope n_number_of ["word"] (defScope Hd.s_number_of) := ⟨by kernel_rfl, by kernel_rfl, by kernel_rfl, by decide +kernel, by kernel_rfl, by decide +kernel, by decide +kernel⟩
theorem ck_number_of : chkB i_number_of ⟨n_number_of, defScope Hd.s_number_of, none, true, ["NoWeb", "NoArrows", "BadText", "ArrowError"]⟩ (defBody Hd.s_number_of) = true := by decide +kernel
theorem sc_pair_in : FnScope n_pair_in ["rows", "at", "head"] (defScope Hd.s_pair_in) := ⟨by kernel_rfl, by kernel_rfl, by kernel_rfl, by decide +kernel, by kernel_rfl, by decide +kernel, by decide +kernel⟩
theorem ck_pair_in : chkB i_pair_in ⟨n_pair_in, defScope Hd.s_pair_in, none, true, ["NoWeb", "NoArrows", "BadText", "ArrowError"]⟩ (defBody Hd.s_pair_in) = true := by decide +kernel
theorem sc_pairs_read : FnScope n_pairs_read ["text", "head", "word"] (defScope Hd.s_pairs_read) := ⟨by kernel_rfl, by kernel_rfl, by kernel_rfl, by decide +kernel, by kernel_rfl, by decide +kernel, by decide +kernel⟩
theorem ck_pairs_read : chkB i_pairs_read ⟨n_pairs_read, defScope Hd.s_pairs_read, none, true, ["NoWeb", "NoArrows", "BadText", "ArrowError"]⟩ (defBody Hd.s_pairs_read) = true := by decide +kernel
theorem sc_read_web : FnScope n_read_web ["text"] (defScope Hd.s_read_web) := ⟨by kernel_rfl, by kernel_rfl, by kernel_rfl, by decide +kernel, by kernel_rfl, by decide +kernel, by decide +kernel⟩
theorem ck_read_web : chkB i_read_web ⟨n_read_web, defScope Hd.s_read_web, none, true, ["NoWeb", "NoArrows", "BadText", "ArrowError"]⟩ (defBody Hd.s_read_web) = true := by decide +kernel
theorem sc_read_arrows : FnScope n_read_arrows ["text"] (defScope Hd.s_read_arrows) := ⟨by kernel_rfl, by kernel_rfl, by kernel_rfl, by decide +kernel, by kernel_rfl, by decide +kernel, by decide +kernel⟩
theorem ck_read_arrows : chkB i_read_arrows ⟨n_read_arrows, defScope Hd.s_read_arrows, none, true, ["NoWeb", "NoArrows", "BadText", "ArrowError"]⟩ (defBody Hd.s_read_arrows) = true := by decide +kernel
theorem sc__law_hand : FnScope n__law_hand ["script"] (defScope Hd.s__law_hand) := ⟨by kernel_rfl, by kernel_rfl, by kernel_rfl, by decide +kernel, by kernel_rfl, by decide +kernel, by decide +kernel⟩
theorem ck__law_hand : chkB i__law_hand ⟨n__law_hand, defScope Hd.s__law_hand, none, true, ["NoWeb", "NoArrows", "BadText", "ArrowError"]⟩ (defBody Hd.s__law_hand) = true := by decide +kernel
theorem sc__law_draw : FnScope n__law_draw ["hand", "many"] (defScope Hd.s__law_draw) := ⟨by kernel_rfl, by kernel_rfl, by kernel_rfl, by decide +kernel, by kernel_rfl, by decide +kernel, by decide +kernel⟩
theorem ck__law_draw : chkB i__law_draw ⟨n__law_draw, defScope Hd.s__law_draw, none, true, ["NoWeb", "NoArrows", "BadText", "ArrowError"]⟩ (defBody Hd.s__law_draw) = true := by decide +kernel
theorem sc__law_some : FnScope n__law_some ["hand", "things"] (defScope Hd.s__law_some) := ⟨by kernel_rfl, by kernel_rfl, by kernel_rfl, by decide +kernel, by kernel_rfl, by decide +kernel, by decide +kernel⟩
theorem ck__law_some : chkB i__law_some ⟨n__law_some, defScope Hd.s__law_some, none, true, ["NoWeb", "NoArrows", "BadText", "ArrowError"]⟩ (defBody Hd.s__law_some) = true := by decide +kernel
theorem sc__law_kept : FnScope n__law_kept ["told", "due"] (defScope Hd.s__law_kept) := ⟨by kernel_rfl, by kernel_rfl, by kernel_rfl, by decide +kernel, by kernel_rfl, by decide +kernel, by decide +kernel⟩
theorem ck__law_kept : chkB i__law_kept ⟨n__law_kept, defScope Hd.s__law_kept, none, true, ["NoWeb", "NoArrows", "BadText", "ArrowError"]⟩ (defBody Hd.s__law_kept) = true := by decide +kernel
theorem sc__law_mixed : FnScope n__law_mixed ["hand", "things"] (defScope Hd.s__law_mixed) := ⟨by kernel_rfl, by kernel_rfl, by kernel_rfl, by decide +kernel, by kernel_rfl, by decide +kernel, by decide +kernel⟩
theorem ck__law_mixed : chkB i__law_mixed ⟨n__law_mixed, defScope Hd.s__law_mixed, none, true, ["NoWeb", "NoArrows", "BadText", "ArrowError"]⟩ (defBody Hd.s__law_mixed) = true := by decide +kernel
theorem sc__law_web : FnScope n__law_web ["table"] (defScope Hd.s__law_web) := ⟨by kernel_rfl, by kernel_rfl, by kernel_rfl, by decide +kernel, by kernel_rfl, by decide +kernel, by decide +kernel⟩
theorem ck__law_web : chkB i__law_web ⟨n__law_web, defScope Hd.s__law_web, none, true, ["NoWeb", "NoArrows", "BadText", "ArrowError"]⟩ (defBody Hd.s__law_web) = true := by decide +kernel
theorem sc__law_table : FnScope n__law_table ["web"] (defScope Hd.s__law_table) := ⟨by kernel_rfl, by kernel_rfl, by kernel_rfl, by decide +kernel, by kernel_rfl, by decide +kernel, by decide +kernel⟩
theorem ck__law_table : chkB i__law_table ⟨n__law_table, defScope Hd.s__law_table, none, true, ["NoWeb", "NoArrows", "BadText", "ArrowError"]⟩ (defBody Hd.s__law_table) = true := by decide +kernel
theorem sc__law_random : FnScope n__law_random ["hand", "many"] (defScope Hd.s__law_random) := ⟨by kernel_rfl, by kernel_rfl, by kernel_rfl, by decide +kernel, by kernel_rfl, by decide +kernel, by decide +kernel⟩
theorem ck__law_random : chkB i__law_random ⟨n__law_random, defScope Hd.s__law_random, none, true, ["NoWeb", "NoArrows", "BadText", "ArrowError"]⟩ (defBody Hd.s__law_random) = true := by decide +kernel
theorem sc__law_put_in : FnScope n__law_put_in ["table", "corner", "inner"] (defScope Hd.s__law_put_in) := ⟨by kernel_rfl, by kernel_rfl, by kernel_rfl, by decide +kernel, by kernel_rfl, by decide +kernel, by decide +kernel⟩
theorem ck__law_put_in : chkB i__law_put_in ⟨n__law_put_in, defScope Hd.s__law_put_in, none, true, ["NoWeb", "NoArrows", "BadText", "ArrowError"]⟩ (defBody Hd.s__law_put_in) = true := by decide +kernel
theorem sc__law_named : FnScope n__law_named ["hand", "table"] (defScope Hd.s__law_named) := ⟨by kernel_rfl, by kernel_rfl, by kernel_rfl, by decide +kernel, by kernel_rfl, by decide +kernel, by decide +kernel⟩
theorem ck__law_named : chkB i__law_named ⟨n__law_named, defScope Hd.s__law_named, none, true, ["NoWeb", "NoArrows", "BadText", "ArrowError"]⟩ (defBody Hd.s__law_named) = true := by decide +kernel
theorem sc__law_known : FnScope n__law_known ["hand"] (defScope Hd.s__law_known) := ⟨by kernel_rfl, by kernel_rfl, by kernel_rfl, by decide +kernel, by kernel_rfl, by decide +kernel, by decide +kernel⟩
theorem ck__law_known : chkB i__law_known ⟨n__law_known, defScope Hd.s__law_known, none, true, ["NoWeb", "NoArrows", "BadText", "ArrowError"]⟩ (defBody Hd.s__law_known) = true := by decide +kernel
theorem sc__law_nested : FnScope n__law_nested ["hand", "most"] (defScope Hd.s__law_nested) := ⟨by kernel_rfl, by kernel_rfl, by kernel_rfl, by decide +kernel, by kernel_rfl, by decide +kernel, by decide +kernel⟩
theorem ck__law_nested : chkB i__law_nested ⟨n__law_nested, defScope Hd.s__law_nested, none, true, ["NoWeb", "NoArrows", "BadText", "ArrowError"]⟩ (defBody Hd.s__law_nested) = true := by decide +kernel
theorem sc__law_any_web : FnScope n__law_any_web ["hand", "most"] (defScope Hd.s__law_any_web) := ⟨by kernel_rfl, by kernel_rfl, by kernel_rfl, by decide +kernel, by kernel_rfl, by decide +kernel, by decide +kernel⟩
theorem ck__law_any_web : chkB i__law_any_web ⟨n__law_any_web, defScope Hd.s__law_any_web, none, true, ["NoWeb", "NoArrows", "BadText", "ArrowError"]⟩ (defBody Hd.s__law_any_web) = true := by decide +kernel
theorem sc__law_closed : FnScope n__law_closed ["table"] (defScope Hd.s__law_closed) := ⟨by kernel_rfl, by kernel_rfl, by kernel_rfl, by decide +kernel, by kernel_rfl, by decide +kernel, by decide +kernel⟩
theorem ck__law_closed : chkB i__law_closed ⟨n__law_closed, defScope Hd.s__law_closed, none, true, ["NoWeb", "NoArrows", "BadText", "ArrowError"]⟩ (defBody Hd.s__law_closed) = true := by decide +kernel
theorem sc__law_order_table : FnScope n__law_order_table ["hand", "most"] (defScope Hd.s__law_order_table) := ⟨by kernel_rfl, by kernel_rfl, by kernel_rfl, by decide +kernel, by kernel_rfl, by decide +kernel, by decide +kernel⟩
theorem ck__law_order_table : chkB i__law_order_table ⟨n__law_order_table, defScope Hd.s__law_order_table, none, true, ["NoWeb", "NoArrows", "BadText", "ArrowError"]⟩ (defBody Hd.s__law_order_table) = true := by decide +kernel
theorem sc__law_put_behind : FnScope n__law_put_behind ["hand", "many"] (defScope Hd.s__law_put_behind) := ⟨by kernel_rfl, by kernel_rfl, by kernel_rfl, by decide +kernel, by kernel_rfl, by decide +kernel, by decide +kernel⟩
theorem ck__law_put_behind : chkB i__law_put_behind ⟨n__law_put_behind, defScope Hd.s__law_put_behind, none, true, ["NoWeb", "NoArrows", "BadText", "ArrowError"]⟩ (defBody Hd.s__law_put_behind) = true := by decide +kernel
theorem sc__law_letters : FnScope n__law_letters ["web", "table"] (defScope Hd.s__law_letters) := ⟨by kernel_rfl, by kernel_rfl, by kernel_rfl, by decide +kernel, by kernel_rfl, by decide +kernel, by decide +kernel⟩
theorem ck__law_letters : chkB i__law_letters ⟨n__law_letters, defScope Hd.s__law_letters, none, true, ["NoWeb", "NoArrows", "BadText", "ArrowError"]⟩ (defBody Hd.s__law_letters) = true := by decide +kernel
theorem sc__law_order : FnScope n__law_order ["hand", "most"] (defScope Hd.s__law_order) := ⟨by kernel_rfl, by kernel_rfl, by kernel_rfl, by decide +kernel, by kernel_rfl, by decide +kernel, by decide +kernel⟩
theorem ck__law_order : chkB i__law_order ⟨n__law_order, defScope Hd.s__law_order, none, true, ["NoWeb", "NoArrows", "BadText", "ArrowError"]⟩ (defBody Hd.s__law_order) = true := by decide +kernel
theorem sc__law_arrow_table : FnScope n__law_arrow_table ["web", "letters"] (defScope Hd.s__law_arrow_table) := ⟨by kernel_rfl, by kernel_rfl, by kernel_rfl, by decide +kernel, by kernel_rfl, by decide +kernel, by decide +kernel⟩
theorem ck__law_arrow_table : chkB i__law_arrow_table ⟨n__law_arrow_table, defScope Hd.s__law_arrow_table, none, true, ["NoWeb", "NoArrows", "BadText", "ArrowError"]⟩ (defBody Hd.s__law_arrow_table) = true := by decide +kernel
theorem sc__law_goes_on : FnScope n__law_goes_on ["table"] (defScope Hd.s__law_goes_on) := ⟨by kernel_rfl, by kernel_rfl, by kernel_rfl, by decide +kernel, by kernel_rfl, by decide +kernel, by decide +kernel⟩
theorem ck__law_goes_on : chkB i__law_goes_on ⟨n__law_goes_on, defScope Hd.s__law_goes_on, none, true, ["NoWeb", "NoArrows", "BadText", "ArrowError"]⟩ (defBody Hd.s__law_goes_on) = true := by decide +kernel
theorem sc__law_are_arrows : FnScope n__law_are_arrows ["web", "thing"] (defScope Hd.s__law_are_arrows) := ⟨by kernel_rfl, by kernel_rfl, by kernel_rfl, by decide +kernel, by kernel_rfl, by decide +kernel, by decide +kernel⟩
theorem ck__law_are_arrows : chkB i__law_are_arrows ⟨n__law_are_arrows, defScope Hd.s__law_are_arrows, none, true, ["NoWeb", "NoArrows", "BadText", "ArrowError"]⟩ (defBody Hd.s__law_are_arrows) = true := by decide +kernel
theorem sc__law_no_web : FnScope n__law_no_web ["hand", "web"] (defScope Hd.s__law_no_web) := ⟨by kernel_rfl, by kernel_rfl, by kernel_rfl, by decide +kernel, by kernel_rfl, by decide +kernel, by decide +kernel⟩
theorem ck__law_no_web : chkB i__law_no_web ⟨n__law_no_web, defScope Hd.s__law_no_web, none, true, ["NoWeb", "NoArrows", "BadText", "ArrowError"]⟩ (defBody Hd.s__law_no_web) = true := by decide +kernel
theorem sc__law_no_arrows : FnScope n__law_no_arrows ["hand", "web", "letters"] (defScope Hd.s__law_no_arrows) := ⟨by kernel_rfl, by kernel_rfl, by kernel_rfl, by decide +kernel, by kernel_rfl, by decide +kernel, by decide +kernel⟩
theorem ck__law_no_arrows : chkB i__law_no_arrows ⟨n__law_no_arrows, defScope Hd.s__law_no_arrows, none, true, ["NoWeb", "NoArrows", "BadText", "ArrowError"]⟩ (defBody Hd.s__law_no_arrows) = true := by decide +kernel
theorem sc__law_lined : FnScope n__law_lined ["rows"] (defScope Hd.s__law_lined) := ⟨by kernel_rfl, by kernel_rfl, by kernel_rfl, by decide +kernel, by kernel_rfl, by decide +kernel, by decide +kernel⟩
theorem ck__law_lined : chkB i__law_lined ⟨n__law_lined, defScope Hd.s__law_lined, none, true, ["NoWeb", "NoArrows", "BadText", "ArrowError"]⟩ (defBody Hd.s__law_lined) = true := by decide +kernel
theorem sc__law_number_of : FnScope n__law_number_of ["word"] (defScope Hd.s__law_number_of) := ⟨by kernel_rfl, by kernel_rfl, by kernel_rfl, by decide +kernel, by kernel_rfl, by decide +kernel, by decide +kernel⟩
theorem ck__law_number_of : chkB i__law_number_of ⟨n__law_number_of, defScope Hd.s__law_number_of, none, true, ["NoWeb", "NoArrows", "BadText", "ArrowError"]⟩ (defBody Hd.s__law_number_of) = true := by decide +kernel
theorem sc__law_pair : FnScope n__law_pair ["line", "head"] (defScope Hd.s__law_pair) := ⟨by kernel_rfl, by kernel_rfl, by kernel_rfl, by decide +kernel, by kernel_rfl, by decide +kernel, by decide +kernel⟩
theorem ck__law_pair : chkB i__law_pair ⟨n__law_pair, defScope Hd.s__law_pair, none, true, ["NoWeb", "NoArrows", "BadText", "ArrowError"]⟩ (defBody Hd.s__law_pair) = true := by decide +kernel
theorem sc__law_read : FnScope n__law_read ["text", "head", "word"] (defScope Hd.s__law_read) := ⟨by kernel_rfl, by kernel_rfl, by kernel_rfl, by decide +kernel, by kernel_rfl, by decide +kernel, by decide +kernel⟩
theorem ck__law_read : chkB i__law_read ⟨n__law_read, defScope Hd.s__law_read, none, true, ["NoWeb", "NoArrows", "BadText", "ArrowError"]⟩ (defBody Hd.s__law_read) = true := by decide +kernel
theorem sc__law_is_web : FnScope n__law_is_web ["thing"] (defScope Hd.s__law_is_web) := ⟨by kernel_rfl, by kernel_rfl, by kernel_rfl, by decide +kernel, by kernel_rfl, by decide +kernel, by decide +kernel⟩
theorem ck__law_is_web : chkB i__law_is_web ⟨n__law_is_web, defScope Hd.s__law_is_web, none, true, ["NoWeb", "NoArrows", "BadText", "ArrowError"]⟩ (defBody Hd.s__law_is_web) = true := by decide +kernel
theorem sc__law_due : FnScope n__law_due ["kind", "text"] (defScope Hd.s__law_due) := ⟨by kernel_rfl, by kernel_rfl, by kernel_rfl, by decide +kernel, by kernel_rfl, by decide +kernel, by decide +kernel⟩
theorem ck__law_due : chkB i__law_due ⟨n__law_due, defScope Hd.s__law_due, none, true, ["NoWeb", "NoArrows", "BadText", "ArrowError"]⟩ (defBody Hd.s__law_due) = true := by decide +kernel
theorem sc__law_outcome : FnScope n__law_outcome ["kind", "text"] (defScope Hd.s__law_outcome) := ⟨by kernel_rfl, by kernel_rfl, by kernel_rfl, by decide +kernel, by kernel_rfl, by decide +kernel, by decide +kernel⟩
theorem ck__law_outcome : chkB i__law_outcome ⟨n__law_outcome, defScope Hd.s__law_outcome, none, true, ["NoWeb", "NoArrows", "BadText", "ArrowError"]⟩ (defBody Hd.s__law_outcome) = true := by decide +kernel
theorem sc__law_bent : FnScope n__law_bent ["hand", "text"] (defScope Hd.s__law_bent) := ⟨by kernel_rfl, by kernel_rfl, by kernel_rfl, by decide +kernel, by kernel_rfl, by decide +kernel, by decide +kernel⟩
theorem ck__law_bent : chkB i__law_bent ⟨n__law_bent, defScope Hd.s__law_bent, none, true, ["NoWeb", "NoArrows", "BadText", "ArrowError"]⟩ (defBody Hd.s__law_bent) = true := by decide +kernel
theorem sc_law : FnScope n_law ["script"] (defScope Hd.s_law) := ⟨by kernel_rfl, by kernel_rfl, by kernel_rfl, by decide +kernel, by kernel_rfl, by decide +kernel, by decide +kernel⟩
theorem ck_law : chkB i_law ⟨n_law, defScope Hd.s_law, none, true, ["NoWeb", "NoArrows", "BadText", "ArrowError"]⟩ (defBody Hd.s_law) = true := by decide +kernel
end PL
/-! B0: general lemmas -/
namespace PL
open PySem PySem.Spec PyProof.Rows L2 PySem.W

section
variable {Φ : Md} {ρ : Rho} {μ : Mu} {R : RD} {X : RX} {c e : IE} {rest : IS} {d : D} {p : Bool}
theorem ret_ev (h : ev Φ e ρ μ d) (k : R d μ) : semS Φ (.sq (.ret e) .nop) ρ μ (dEnd R X) := h _ _ (ret0 k)
theorem if_ret (hc : evT Φ c ρ μ p) (h1 : p = true → ev Φ e ρ μ d ∧ R d μ) (h2 : p = false → semS Φ rest ρ μ (dEnd R X)) : semS Φ (.sq (.ite c (.sq (.ret e) .nop) .nop) rest) ρ μ (dEnd R X) := hc _ _ (by
  cases p with
  | true => exact (h1 rfl).1 _ _ (ret0 (X := X) (h1 rfl).2)
  | false => exact h2 rfl)
theorem if_ev {a b : IS} {E : End} (hc : evT Φ c ρ μ p) (h1 : p = true → semS Φ a ρ μ { E with nx := fun ρ1 μ1 => semS Φ rest ρ1 μ1 E }) (h2 : p = false → semS Φ b ρ μ { E with nx := fun ρ1 μ1 => semS Φ rest ρ1 μ1 E }) : semS Φ (.sq (.ite c a b) rest) ρ μ E := hc _ _ (by
  cases p with
  | true => exact h1 rfl
  | false => exact h2 rfl)
end
theorem cmp_ne {μ : Mu} {i j : Int} {R : Bool → Prop} (h : R (!decide (i = j))) : opCmp .ne (.int i) (.int j) μ R := h
theorem cmp_eq {μ : Mu} {i j : Int} {R : Bool → Prop} (h : R (decide (i = j))) : opCmp .eq (.int i) (.int j) μ R := h
theorem cmp_eqs {μ : Mu} {i j : Str} {R : Bool → Prop} (h : R (decide (i = j))) : opCmp .eq (.str i) (.str j) μ R := h
theorem cmp_nes {μ : Mu} {i j : Str} {R : Bool → Prop} (h : R (!decide (i = j))) : opCmp .ne (.str i) (.str j) μ R := h
theorem cmp_eqb {μ : Mu} {i j : Bool} {R : Bool → Prop} (h : R (decide (i = j))) : opCmp .eq (.bl i) (.bl j) μ R := h
theorem cmp_neb {μ : Mu} {i j : Bool} {R : Bool → Prop} (h : R (!decide (i = j))) : opCmp .ne (.bl i) (.bl j) μ R := h
theorem cmp_le {μ : Mu} {i j : Int} {R : Bool → Prop} (h : R (decide (i ≤ j))) : opCmp .le (.int i) (.int j) μ R := h
theorem cmp_ge {μ : Mu} {i j : Int} {R : Bool → Prop} (h : R (decide (j ≤ i))) : opCmp .ge (.int i) (.int j) μ R := h
theorem cmp_lt {μ : Mu} {i j : Int} {R : Bool → Prop} (h : R (decide (i < j))) : opCmp .lt (.int i) (.int j) μ R := h
theorem cmp_gt {μ : Mu} {i j : Int} {R : Bool → Prop} (h : R (decide (j < i))) : opCmp .gt (.int i) (.int j) μ R := h
mutual
def okD : D → Bool
  | .ref _ => false
  | .fn _ => false
  | .rd _ => false
  | .tup ds => okDs ds
  | .lst ds => okDs ds
  | _ => true
def okDs : List D → Bool
  | [] => true
  | d :: ds => okD d && okDs ds
end
theorem okD_ty {d : D} {μ : Mu} (h : okD d = true) : tyable μ d = true := by
  cases d <;> first | rfl | cases h
theorem okDs_mem : ∀ {ds : List D} {d : D}, okDs ds = true → d ∈ ds → okD d = true
  | [], _, _, h => by cases h
  | e :: es, d, h, hm => by
    rw [okDs, Bool.and_eq_true] at h
    rcases List.mem_cons.mp hm with rfl | hm
    · exact h.1
    · exact okDs_mem h.2 hm
def isInt : D → Bool
  | .int _ => true
  | _ => false
def btw (d : D) (i j : Int) : Bool := match d with
  | .int n => decide (i ≤ n) && decide (n ≤ j)
  | _ => false
section
variable {Φ : Md} {ρ : Rho} {μ : Mu} {E : End} {rest b : IS} {e a i it el c : IE}
theorem unp_ev {is : List Nat} {ds : List D} (h : ev Φ e ρ μ (.tup ds)) (hl : ds.length = is.length) (k : semS Φ rest ((is.zip ds).foldl (fun ρ p => ρ.set p.1 (some p.2)) ρ) μ E) : semS Φ (.sq (.unp is e) rest) ρ μ E := h _ _ ⟨ds, rfl, hl, k⟩
theorem asg_ev {j : Nat} {d : D} (h : ev Φ e ρ μ d) (k : semS Φ rest (ρ.set j (some d)) μ E) : semS Φ (.sq (.asg (.nm j) e) rest) ρ μ E := h _ _ k
theorem asg_sem {j : Nat} (h : semE Φ e ρ μ (fun d μ1 => semS Φ rest (ρ.set j (some d)) μ1 E) (fun x μ' => E.ex x ρ μ')) : semS Φ (.sq (.asg (.nm j) e) rest) ρ μ E := h
theorem asg_sub {x y d : D} (h1 : ev Φ a ρ μ x) (h2 : ev Φ i ρ μ y) (h3 : ev Φ e ρ μ d) (k : opSet x y d μ fun μ3 => semS Φ rest ρ μ3 E) : semS Φ (.sq (.asg (.sub a i) e) rest) ρ μ E := h3 _ _ (h1 _ _ (h2 _ _ k))
theorem for_evP {tg : List Nat} {tp : Bool} {ds : List D} (h : evP Φ it ρ μ ds) (k : forT (fun _ => True) (bindD tg tp) (fun ρ μ E => semS Φ b ρ μ E) ds ρ μ { E with nx := fun ρ1 μ1 => semS Φ rest ρ1 μ1 E }) : semS Φ (.sq (.for tg tp it b) rest) ρ μ E := h _ _ k
theorem for_ev {tg : List Nat} {tp : Bool} {ds : List D} (h : evI Φ it ρ μ ds) (k : ∀ g : Mu → Prop, g μ → forT g (bindD tg tp) (fun ρ μ E => semS Φ b ρ μ E) ds ρ μ { E with nx := fun ρ1 μ1 => semS Φ rest ρ1 μ1 E }) : semS Φ (.sq (.for tg tp it b) rest) ρ μ E := h _ _ k
theorem ret_sem {R : RD} {X : RX} (h : semE Φ e ρ μ (fun d μ1 => ∃ keep n, R (fz μ1 keep n d) (μ1.cut keep)) (fun x μ' => (dEnd R X).ex x ρ μ')) : semS Φ (.sq (.ret e) .nop) ρ μ (dEnd R X) := h
end
def moD : MO → D
  | .lst ds => .lst ds
  | .dK ks => .dK ks
structure Cells (μ0 μ : Mu) (as : List Addr) (os : List MO) : Prop where
  nd : as.Nodup
  len : as.length = os.length
  new : ∀ a, a ∈ as → μ0 a = none
  has : ∀ (k : Nat) a m, as[k]? = some a → os[k]? = some m → μ a = some m
  off : ∀ a, a ∉ as → μ a = μ0 a
theorem Cells.nil {μ : Mu} : Cells μ μ [] [] := ⟨List.nodup_nil, rfl, (fun _ h => by cases h), (fun _ _ _ h => by simp at h), fun _ _ => rfl⟩
section
variable {μ0 μ : Mu} {as : List Addr} {os : List MO} {a : Addr} {m : MO} {k : Nat}
theorem Cells.isSome (c : Cells μ0 μ as os) (h : a ∈ as) : ∃ m, μ a = some m := by
  obtain ⟨k, hk, e⟩ := List.mem_iff_getElem.mp h
  have hk2 : k < os.length := c.len ▸ hk
  exact ⟨os[k], c.has k a _ (by rw [List.getElem?_eq_getElem hk, e]) (List.getElem?_eq_getElem hk2)⟩
theorem Cells.add (c : Cells μ0 μ as os) (h : μ a = none) : Cells μ0 (μ.set a m) (as ++ [a]) (os ++ [m]) := by
  have na : a ∉ as := fun z => by
    obtain ⟨m, e⟩ := c.isSome z
    rw [h] at e
    cases e
  refine ⟨?_, ?_, fun b hb => ?_, fun k b n e1 e2 => ?_, fun b hb => ?_⟩
  · rw [List.nodup_append]
    exact ⟨c.nd, List.nodup_cons.mpr ⟨by simp, List.nodup_nil⟩, fun x hx y hy => by
      rw [List.mem_singleton] at hy
      subst hy
      exact fun z => na (z ▸ hx)⟩
  · simp [c.len]
  · rcases List.mem_append.mp hb with hb | hb
    · exact c.new b hb
    · rw [List.mem_singleton] at hb
      subst hb
      rw [← c.off b na]
      exact h
  · by_cases hk : k < as.length
    · rw [List.getElem?_append_left hk] at e1
      rw [List.getElem?_append_left (c.len ▸ hk)] at e2
      have : b ≠ a := fun z => na (z ▸ List.mem_of_getElem? e1)
      rw [Mu.set_ne this]
      exact c.has k b n e1 e2
    · have hk1 : k = as.length := by
        have := (List.getElem?_eq_some_iff.mp e1).1
        simp at this
        omega
      subst hk1
      rw [List.getElem?_append_right (Nat.le_refl _)] at e1
      rw [c.len, List.getElem?_append_right (Nat.le_refl _)] at e2
      simp at e1 e2
      subst e1 e2
      exact Mu.set_same
  · have h1 : b ∉ as := fun z => hb (List.mem_append_left _ z)
    have h2 : b ≠ a := fun z => hb (z ▸ List.mem_append_right _ (List.mem_singleton.mpr rfl))
    rw [Mu.set_ne h2]
    exact c.off b h1
theorem Cells.put (c : Cells μ0 μ as os) (h : as[k]? = some a) : Cells μ0 (μ.set a m) as (os.set k m) := by
  refine ⟨c.nd, by rw [List.length_set]; exact c.len, c.new, fun j b n e1 e2 => ?_, fun b hb => ?_⟩
  · by_cases hj : j = k
    · subst hj
      rw [h] at e1
      cases e1
      have hl : j < os.length := by rw [← c.len]; exact (List.getElem?_eq_some_iff.mp h).1
      rw [List.getElem?_set_self hl] at e2
      cases e2
      exact Mu.set_same
    · rw [List.getElem?_set_ne (Ne.symm hj)] at e2
      have : b ≠ a := fun z => by
        subst z
        obtain ⟨h1, e3⟩ := List.getElem?_eq_some_iff.mp e1
        obtain ⟨h2, e4⟩ := List.getElem?_eq_some_iff.mp h
        rcases Nat.lt_trichotomy j k with q | q | q
        · exact List.pairwise_iff_getElem.mp c.nd j k h1 h2 q (e3.trans e4.symm)
        · exact hj q
        · exact List.pairwise_iff_getElem.mp c.nd k j h2 h1 q (e4.trans e3.symm)
      rw [Mu.set_ne this]
      exact c.has j b n e1 e2
  · have : b ≠ a := fun z => hb (z ▸ List.mem_of_getElem? h)
    rw [Mu.set_ne this]
    exact c.off b hb
theorem Cells.out (c : Cells μ0 μ as os) {h : Addr} {m0 : MO} (e : μ0 h = Option.some m0) (m : MO) : Cells (μ0.set h m) (μ.set h m) as os := by
  have nh : h ∉ as := fun z => by
    rw [c.new h z] at e
    cases e
  refine ⟨c.nd, c.len, fun b hb => ?_, fun k b n e1 e2 => ?_, fun b hb => ?_⟩
  · rw [Mu.set_ne (fun z => nh (by rw [← z]; exact hb))]; exact c.new b hb
  · rw [Mu.set_ne (fun z => nh (by rw [← z]; exact List.mem_of_getElem? e1))]; exact c.has k b n e1 e2
  · by_cases q : b = h
    · subst q; rw [Mu.set_same, Mu.set_same]
    · rw [Mu.set_ne q, Mu.set_ne q]; exact c.off b hb
theorem Cells.keep (c : Cells μ0 μ as os) {h : Addr} {m0 : MO} (e : μ0 h = Option.some m0) : μ h = Option.some m0 := by
  have nh : h ∉ as := fun z => by
    rw [c.new h z] at e
    cases e
  rw [c.off h nh]
  exact e
def kp (as : List Addr) : Addr → Bool := fun a => !decide (a ∈ as)
theorem map_fz0 {μ : Mu} {g : Addr → Bool} : ∀ ds : List D, ds.map (fz μ g 0) = ds
  | [] => rfl
  | d :: ds => by rw [List.map_cons, map_fz0 ds] <;> rfl
theorem mapK_fz0 {μ : Mu} {g : Addr → Bool} : ∀ ds : List (Key × D), ds.map (fun p : Key × D => (p.1, fz μ g 0 p.2)) = ds
  | [] => rfl
  | d :: ds => by rw [List.map_cons, mapK_fz0 ds] <;> rfl
theorem Cells.fz (c : Cells μ0 μ as os) : fz μ (kp as) 2 (.lst (as.map .ref)) = .lst (os.map moD) := by
  show D.lst ((as.map D.ref).map (PL.fz μ (kp as) 1)) = _
  congr 1
  apply List.ext_getElem?
  intro k
  rw [List.getElem?_map, List.getElem?_map, List.getElem?_map]
  by_cases hk : k < as.length
  · have hk2 : k < os.length := c.len ▸ hk
    rw [List.getElem?_eq_getElem hk, List.getElem?_eq_getElem hk2]
    have e := c.has k _ _ (List.getElem?_eq_getElem hk) (List.getElem?_eq_getElem hk2)
    show Option.some (match kp as as[k] with
        | true => D.ref as[k]
        | false => match μ as[k] with
          | .some (.lst ds) => .lst (ds.map (PL.fz μ (kp as) 0))
          | .some (.dK ks) => .dK (ks.map fun p : Key × D => (p.1, PL.fz μ (kp as) 0 p.2))
          | none => .ref as[k]) = _
    have hkp : kp as as[k] = false := by
      unfold kp
      rw [decide_eq_true (List.getElem_mem hk)]
      rfl
    rw [hkp, e]
    cases os[k] with
    | lst ds =>
      show Option.some (D.lst (ds.map (PL.fz μ (kp as) 0))) = _
      rw [map_fz0] <;> rfl
    | dK ks =>
      show Option.some (D.dK (ks.map fun p : Key × D => (p.1, PL.fz μ (kp as) 0 p.2))) = _
      rw [mapK_fz0] <;> rfl
  · rw [List.getElem?_eq_none (Nat.le_of_not_lt hk), List.getElem?_eq_none (by rw [← c.len]; exact Nat.le_of_not_lt hk)] <;> rfl
theorem Cells.cut (c : Cells μ0 μ as os) : μ.cut (kp as) = μ0 := by
  funext b
  unfold Mu.cut kp
  by_cases h : b ∈ as
  · rw [decide_eq_true h]
    exact (c.new b h).symm
  · rw [decide_eq_false h]
    exact c.off b h
/-- the row, as it stands at the end -/
theorem Cells.ret {R : RD} (c : Cells μ0 μ as os) (h : R (.lst (os.map moD)) μ0) : ∃ keep n, R (PL.fz μ keep n (.lst (as.map .ref))) (μ.cut keep) := ⟨kp as, 2, by rw [c.fz, c.cut]; exact h⟩
theorem Cells.at (c : Cells μ0 μ as os) (h : os[k]? = Option.some m) : ∃ a, as[k]? = Option.some a ∧ (as.map D.ref)[k]? = Option.some (.ref a) ∧ μ a = Option.some m := by
  have hl : k < as.length := by rw [c.len]; exact (List.getElem?_eq_some_iff.mp h).1
  refine ⟨as[k], List.getElem?_eq_getElem hl, ?_, c.has k _ _ (List.getElem?_eq_getElem hl) h⟩
  rw [List.getElem?_map, List.getElem?_eq_getElem hl] <;> rfl
end
/-! ### dicts -/
theorem look_map {ks : List (Key × D)} {k : Key} {v : D} (k' : Key) : hasK (ks.map fun kv => if kv.1 = k then (kv.1, v) else kv) k' = hasK ks k' := by
  unfold hasK lookK
  rw [Option.isSome_map, Option.isSome_map]
  induction ks with
  | nil => rfl
  | cons p ks ih =>
    rw [List.map_cons, List.find?_cons, List.find?_cons]
    have e : decide ((if p.1 = k then (p.1, v) else p).1 = k') = decide (p.1 = k') := by split <;> rfl
    rw [e]
    cases decide (p.1 = k') with
    | true => rfl
    | false => exact ih
theorem hasK_any {ks : List (Key × D)} {k : Key} : hasK ks k = ks.any fun kv => decide (kv.1 = k) := by
  unfold hasK lookK
  rw [Option.isSome_map]
  induction ks with
  | nil => rfl
  | cons p ks ih =>
    rw [List.find?_cons, List.any_cons, ← ih]
    cases decide (p.1 = k) <;> rfl
theorem hasK_set {ks : List (Key × D)} {k : Key} {v : D} (k' : Key) : hasK (setK ks k v) k' = (decide (k = k') || hasK ks k') := by
  unfold setK
  split
  · rename_i h
    rw [look_map]
    by_cases e : k = k'
    · subst e
      rw [hasK_any, h, decide_eq_true rfl] <;> rfl
    · rw [decide_eq_false e] <;> rfl
  · rename_i h
    rw [hasK_any, hasK_any, List.any_append, Bool.or_comm]
    simp
theorem len_setK {ks : List (Key × D)} {k : Key} {v : D} : (setK ks k v).length ≤ ks.length + 1 := by
  unfold setK
  split
  · rw [List.length_map]; exact Nat.le_succ _
  · rw [List.length_append] <;> exact Nat.le_refl _
def pairD (p : Nat × Nat) : D := .tup [.int p.1, .int p.2]
def webD (n : Nat) (ts : List (Nat × Nat)) : D := .tup [.int n, .tup (ts.map pairD)]
def adjB (ts : List (Nat × Nat)) (i j : Nat) : Bool := ts.any fun p => (decide (p.1 = i) && decide (p.2 = j)) || (decide (p.1 = j) && decide (p.2 = i))
theorem getD_set {α : Type} {xs : List α} {i j : Nat} {x d : α} (h : i < xs.length) : (xs.set i x).getD j d = if j = i then x else xs.getD j d := by
  rw [List.getD_eq_getElem?_getD, List.getD_eq_getElem?_getD]
  by_cases e : j = i
  · subst e
    rw [List.getElem?_set_self h, if_pos rfl] <;> rfl
  · rw [List.getElem?_set_ne (Ne.symm e), if_neg e]
theorem getD_some {α : Type} {xs : List α} {i : Nat} {d : α} (h : i < xs.length) : xs[i]? = some (xs.getD i d) := by
  rw [List.getD_eq_getElem?_getD, List.getElem?_eq_getElem h] <;> rfl
theorem cut_take {xs : List D} {k : Nat} : cutD xs none (some (k : Int)) = xs.take k := by
  unfold cutD
  rw [HT.sIx_none, HT.sIx_nat, List.drop_zero, Nat.sub_zero]
  by_cases h : k ≤ xs.length
  · rw [Nat.min_eq_left h]
  · rw [Nat.min_eq_right (by omega), List.take_of_length_le (by omega), List.take_of_length_le (by omega)]
theorem evP_sliceT {Φ : Md} {ρ : Rho} {μ : Mu} {a hi : IE} {m : Bool} {xs : List D} {k : Nat} (h : ev Φ a ρ μ (.tup xs)) (h2 : evO Φ hi ρ μ (some (k : Int))) : evP Φ (.slice m a .nl hi) ρ μ (xs.take k) := fun R X z =>
  h _ _ (show semO Φ .nl ρ μ _ _ from h2 _ _ (show srcOf (.tup (cutD xs none (some (k : Int)))) μ R by rw [cut_take]; exact z))
theorem evO_var {Φ : Md} {ρ : Rho} {μ : Mu} {i : Nat} {k : Int} (h : ρ[i]? = some (some (.int k))) : evO Φ (.var i) ρ μ (some k) := fun R X z => ⟨k, h, z⟩
theorem flat_le {α β : Type} {g : α → List β} {m : Nat} : ∀ {xs : List α}, (∀ x, x ∈ xs → (g x).length ≤ m) → (xs.flatMap g).length ≤ xs.length * m
  | [], _ => by simp
  | x :: xs, h => by
    rw [List.flatMap_cons, List.length_append, List.length_cons, Nat.succ_mul]
    have h1 := h x List.mem_cons_self
    have h2 := flat_le (xs := xs) (fun y hy => h y (List.mem_cons_of_mem _ hy))
    omega
def natD (k : Nat) : D := .int (k : Int)
def rowD (n : Nat) (t : Nat → Bool) : D := .lst ((List.range n).map fun j => .bl (t j))
def matD (n : Nat) (t : Nat → Nat → Bool) : D := .lst ((List.range n).map fun i => rowD n (t i))
theorem range_at {n k : Nat} {α : Type} {f : Nat → α} (h : k < n) : ((List.range n).map f)[k]? = some (f k) := by
  rw [List.getElem?_map, List.getElem?_range h] <;> rfl
theorem nats_at {ns : List Nat} {k : Nat} (h : k < ns.length) : (ns.map natD)[k]? = some (natD (ns.getD k 0)) := by
  rw [List.getElem?_map, getD_some h] <;> rfl
def tupI (ns : List Int) : D := .tup (ns.map .int)
def tupP (ns : List Int) : PyData := .tuple (ns.map .int)
def intsOf : D → List Int
  | .tup ds => ds.map fun d => match d with
    | .int i => i
    | _ => 0
  | _ => []
def isIT (d : D) : Prop := d = tupI (intsOf d)
theorem ints_tupI (ns : List Int) : intsOf (tupI ns) = ns := by
  show (ns.map D.int).map _ = ns
  rw [List.map_map]
  conv => rhs; rw [← List.map_id ns]
  exact List.map_congr_left fun _ _ => rfl
theorem isIT_tupI (ns : List Int) : isIT (tupI ns) := by
  unfold isIT
  rw [ints_tupI]
theorem toPys_ints : ∀ ns : List Int, toPys (ns.map .int) = some (ns.map .int)
  | [] => rfl
  | n :: ns => by
    show (match toPy (.int n), toPys (ns.map D.int) with
      | some p, some ps => some (p :: ps)
      | _, _ => none) = _
    rw [toPys_ints ns] <;> rfl
theorem toPy_it {d : D} (h : isIT d) : toPy d = some (tupP (intsOf d)) := by
  rw [h]
  show (toPys ((intsOf d).map D.int)).map PyData.tuple = _
  rw [toPys_ints, ints_tupI] <;> rfl
theorem enc_it {d : D} (h : isIT d) : encD d = tupP (intsOf d) := by
  unfold encD
  rw [toPy_it h] <;> rfl
theorem toPys_it : ∀ {ls : List D}, (∀ l, l ∈ ls → isIT l) → toPys ls = some (ls.map encD)
  | [], _ => rfl
  | l :: ls, h => by
    show (match toPy l, toPys ls with
      | some p, some ps => some (p :: ps)
      | _, _ => none) = _
    rw [toPys_it (fun x hx => h x (List.mem_cons_of_mem _ hx)), toPy_it (h l List.mem_cons_self), List.map_cons, enc_it (h l List.mem_cons_self)]
theorem alike_it {ls : List D} (h : ∀ l, l ∈ ls → isIT l) : AllAlike (ls.map encD) := by
  intro d hd d' hd'
  obtain ⟨b, hb, rfl⟩ := List.mem_map.mp hd
  obtain ⟨b', hb', rfl⟩ := List.mem_map.mp hd'
  rw [enc_it (h b hb), enc_it (h b' hb')]
  show alikeAll _ _ = true
  exact alike_ints _ _
theorem sortable_it {ls : List D} (h : ∀ l, l ∈ ls → isIT l ∧ intsOf l ≠ []) : Sortable (ls.map encD) := .inl fun d hd => by
  obtain ⟨b, hb, rfl⟩ := List.mem_map.mp hd
  rw [enc_it (h b hb).1]
  cases e : intsOf b with
  | nil => exact absurd e (h b hb).2
  | cons x r => exact ⟨_, _, rfl⟩
theorem depth_it (ns : List Int) : (tupP ns).depth = 1 := by
  show (PyData.tuple (ns.map .int)).depth = 1
  rw [PyData.depth, depth_ints]
theorem lay_ints : ∀ ns : List Int, PyData.canLayAll0 (ns.map .int) = true
  | [] => by simp [PyData.canLayAll0]
  | n :: ns => by
    show PyData.canLayAll0 (.int n :: ns.map .int) = true
    rw [PyData.canLayAll0, lay_ints ns, PyData.canLay0] <;> rfl
theorem shaped_its : ∀ {ls : List D}, (∀ l, l ∈ ls → isIT l) → PyData.canLayAll0 (ls.map encD) = true ∧ PyData.depthAll (ls.map encD) ≤ 1
  | [], _ => ⟨by simp [PyData.canLayAll0], by simp [PyData.depthAll]⟩
  | l :: ls, h => by
    obtain ⟨h1, h2⟩ := shaped_its (fun x hx => h x (List.mem_cons_of_mem _ hx))
    rw [List.map_cons, enc_it (h l List.mem_cons_self)]
    refine ⟨?_, ?_⟩
    · rw [PyData.canLayAll0, h1]
      show (PyData.canLay0 (.tuple _) && true) = true
      rw [PyData.canLay0, lay_ints] <;> rfl
    · rw [PyData.depthAll, depth_it]
      omega
theorem eq_its {μ : Mu} {ls ls' : List D} {R : Bool → Prop} (h : ∀ l, l ∈ ls → isIT l) (h' : ∀ l, l ∈ ls' → isIT l) (k : R (PyData.eqv (.list (ls.map encD)) (.list (ls'.map encD)))) : opCmp .eq (.lst ls) (.lst ls') μ R := by
  have sh : ∀ {l : List D}, (∀ x, x ∈ l → isIT x) → SeqAt.shaped (.list (l.map encD)) = true := fun {l} hl => by
    obtain ⟨h1, h2⟩ := shaped_its hl
    show (PyData.canLay0 (.list _) && decide (PyData.depth (.list _) ≤ 64)) = true
    rw [PyData.canLay0, h1, PyData.depth, decide_eq_true (by omega)] <;> rfl
  refine ⟨.list (ls.map encD), .list (ls'.map encD), ?_, ?_, sh h, sh h', k⟩
  · show (toPys ls).map PyData.list = _
    rw [toPys_it h] <;> rfl
  · show (toPys ls').map PyData.list = _
    rw [toPys_it h'] <;> rfl
theorem sorted_its {μ : Mu} {x : D} {ls : List D} {R : RD} (e : items μ x = some ls) (h : ∀ l, l ∈ ls → isIT l ∧ intsOf l ≠ []) (hl : ls.length ≤ lim) (k : R (.lst (ls.mergeSort (dataLe false encD))) μ) : opBi .sorted false [x] μ R :=
  ⟨ls, ls.map encD, e, toPys_it fun l hl => (h l hl).1, alike_it fun l hl => (h l hl).1, sortable_it h, hl, fun p hp => by
    obtain ⟨l, hl, rfl⟩ := List.mem_map.mp hp
    rw [enc_it (h l hl).1, depth_it]
    decide, k⟩
theorem mem_sorted {ls : List D} {l : D} : l ∈ ls.mergeSort (dataLe false encD) ↔ l ∈ ls := (List.mergeSort_perm ls _).mem_iff
section
variable {Φ : Md} {ρ : Rho} {μ : Mu} {E : End} {rest : IS} {e a b : IE} {i j : Int} {m : Bool}
theorem ret_E {d : D} (h : ev Φ e ρ μ d) (k : E.rt d μ) : semS Φ (.sq (.ret e) rest) ρ μ E := h _ _ k
theorem ev_mul (h : ev Φ a ρ μ (.int i)) (k : ev Φ b ρ μ (.int j)) (c : CMul i j) : ev Φ (.bin .mul m a b) ρ μ (.int (i * j)) := fun R X q => h _ _ (k _ _ ⟨c, q⟩)
theorem ev_mod (h : ev Φ a ρ μ (.int i)) (k : ev Φ b ρ μ (.int j)) (c : 0 < j) : ev Φ (.bin .mod m a b) ρ μ (.int (i % j)) := fun R X q => h _ _ (k _ _ ⟨c, q⟩)
theorem ev_div (h : ev Φ a ρ μ (.int i)) (k : ev Φ b ρ μ (.int j)) (c : CDiv i j) : ev Φ (.bin .fdiv m a b) ρ μ (.int (i / j)) := fun R X q => h _ _ (k _ _ ⟨c, q⟩)
theorem ev_pow (h : ev Φ a ρ μ (.int i)) (k : ev Φ b ρ μ (.int j)) (c : CPow i j) : ev Φ (.bin .pow m a b) ρ μ (.int (i ^ j.toNat)) := fun R X q => h _ _ (k _ _ ⟨c, q⟩)
theorem ev_toInt (h : ev Φ a ρ μ (.int i)) : ev Φ (.bi .int m (.cs a .nl)) ρ μ (.int i) := ev_bi (evA_cs h evA_nl) fun R z => z
theorem ev_abs (h : ev Φ a ρ μ (.int i)) : ev Φ (.bi .abs m (.cs a .nl)) ρ μ (.int (if i < 0 then -i else i)) := ev_bi (evA_cs h evA_nl) fun R z => z
theorem cmul_r (h : -(2 ^ 64) < j) (k : j < 2 ^ 64) : CMul i j := .inr ⟨h, k⟩
theorem cmul_l (h : -(2 ^ 64) < i) (k : i < 2 ^ 64) : CMul i j := .inl ⟨h, k⟩
end
end PL
/-! B1: webs, the program's look -/
namespace PL
open PySem PySem.Spec PyProof.Rows L2 PySem.W

def sp_is_integer : DSp := sp1 fun a μ R X => okD a = true ∧ R (.bl (isInt a)) μ
theorem m_is_integer {Φ : Md} : ∀ a μ R X, (okD a = true ∧ R (.bl (isInt a)) μ) → semS Φ i_is_integer (startD 1 [a]) μ (dEnd R X) := by
  intro a μ R X ⟨h1, h2⟩
  refine ret_ev (ev_and (ev_inst (ev_var (d := a) rfl) (okD_ty h1)) fun _ => ev_not (ev_inst (ev_var (d := a) rfl) (okD_ty h1))) ?_
  have : (isTy .int a && !isTy .bool a) = isInt a := by cases a <;> rfl
  rw [this]
  exact h2
def sp_is_between : DSp := sp3 fun a lo hi μ R X => okD a = true ∧ ∃ i j, lo = .int i ∧ hi = .int j ∧ R (.bl (btw a i j)) μ
theorem m_is_between {Φ : Md} (f1 : Φ.fns "is_integer" = some sp_is_integer) : ∀ a lo hi μ R X, (okD a = true ∧ ∃ i j, lo = .int i ∧ hi = .int j ∧ R (.bl (btw a i j)) μ) → semS Φ i_is_between (startD 3 [a, lo, hi]) μ (dEnd R X) := by
  rintro a _ _ μ R X ⟨h1, i, j, rfl, rfl, h2⟩
  have e1 : ev Φ (.call "is_integer" (.cs (.var 0) .nl)) (startD 3 [a, .int i, .int j]) μ (.bl (isInt a)) := ev_call f1 (evA_cs (ev_var (d := a) rfl) evA_nl) fun R X z => ⟨h1, z⟩
  cases a with
  | int n => exact ret_ev (ev_and e1 fun _ => ev_chain (ev_var (d := .int i) rfl) (ev_var (d := .int n) rfl) (ev_var (d := .int j) rfl) (fun R h => (show R (decide (i ≤ n)) from h)) (fun _ R h => (show R (decide (n ≤ j)) from h))) h2
  | _ => exact ret_ev (ev_and (q := false) e1 fun z => by cases z) h2
def isTieB (n : Int) : D → Bool
  | .tup [x, y] => btw x 0 (n - 1) && match x with
    | .int i => btw y (i + 1) (n - 1)
    | _ => false
  | _ => false
def sp_is_tie : DSp := sp2 fun a m μ R X => okD a = true ∧ ∃ n, m = .int n ∧ R (.bl (isTieB n a)) μ
/-- a pair, or not -/
def isPair : D → Bool
  | .tup [_, _] => true
  | _ => false
theorem pair_ev {Φ : Md} {ρ : Rho} {μ : Mu} {a : D} {c : IE} {q : Bool} (h0 : ρ[0]? = some (some a)) (h1 : okD a = true) (hc : ∀ x y, a = .tup [x, y] → evT Φ c ρ μ q) :
    evT Φ (.or (.not (.inst (.var 0) .tuple)) (.or (.cmp .ne (.bi .len false (.cs (.var 0) .nl)) (.int 2)) c)) ρ μ (!isPair a || q) := by
  have e : evT Φ (.not (.inst (.var 0) .tuple)) ρ μ (!isTy .tuple a) := evT_not (evT_inst (ev_var h0) (okD_ty h1))
  cases a with
  | tup ds =>
    have e2 : evT Φ (.cmp .ne (.bi .len false (.cs (.var 0) .nl)) (.int 2)) ρ μ (!decide (((ds.length : Nat) : Int) = 2)) := evT_cmp (ev_len (ev_var h0) rfl) ev_int fun R h => cmp_ne h
    match ds, h0, h1, hc, e, e2 with
    | [x, y], h0, h1, hc, e, e2 => exact evT_or e fun _ => evT_or e2 fun _ => hc x y rfl
    | [], h0, h1, hc, e, e2 =>
      have := evT_or e fun _ => evT_or (b := c) (q := q) e2 fun z => by cases z
      exact this
    | [_], h0, h1, hc, e, e2 =>
      have := evT_or e fun _ => evT_or (b := c) (q := q) e2 fun z => by cases z
      exact this
    | x :: y :: z :: r, h0, h1, hc, e, e2 =>
      have e3 : (!decide ((((x :: y :: z :: r).length : Nat) : Int) = 2)) = true := by
        rw [decide_eq_false]
        · rfl
        · simp only [List.length_cons]
          omega
      rw [e3] at e2
      have := evT_or e fun _ => evT_or (b := c) (q := q) e2 fun z => by cases z
      exact this
  | _ => exact evT_or (p := true) (q := q) e fun z => by cases z
theorem m_is_tie {Φ : Md} (f1 : Φ.fns "is_between" = some sp_is_between) : ∀ a m μ R X, (okD a = true ∧ ∃ n, m = .int n ∧ R (.bl (isTieB n a)) μ) → semS Φ i_is_tie (startD 2 [a, m]) μ (dEnd R X) := by
  rintro a _ μ R X ⟨h1, n, rfl, h2⟩
  have ec : ∀ x y, a = .tup [x, y] → evT Φ (.not (.call "is_between" (.cs (.idx (.var 0) (.int 0)) (.cs (.int 0) (.cs (.bin .sub false (.var 1) (.int 1)) .nl))))) (startD 2 [a, .int n]) μ (!(match a with
      | .tup [x, y] => btw x 0 (n - 1)
      | _ => false)) := by
    rintro x y rfl
    refine evT_not (evT_call f1 (evA_cs (ev_idx (ev_var rfl) ev_int rfl rfl) (evA_cs ev_int (evA_cs (ev_sub (ev_var rfl) ev_int) evA_nl))) fun R X z => ?_)
    exact ⟨okDs_mem h1 (by simp), 0, n - 1, rfl, rfl, z⟩
  refine if_ret (pair_ev (a := a) rfl h1 ec) (fun z => ⟨ev_bl, ?_⟩) (fun z => ?_)
  · have : isTieB n a = false := by
      rw [Bool.or_eq_true, Bool.not_eq_true', Bool.not_eq_true'] at z
      unfold isTieB
      split
      · rcases z with z | z
        · cases z
        · rw [show btw _ 0 (n - 1) = false from z] <;> rfl
      · rfl
    rw [this] at h2
    exact h2
  · rw [Bool.or_eq_false_iff, Bool.not_eq_false', Bool.not_eq_false'] at z
    obtain ⟨z1, z2⟩ := z
    unfold isPair at z1
    split at z1
    · rename_i x y
      have z2 : btw x 0 (n - 1) = true := z2
      cases x with
      | int i =>
        refine ret_ev (ev_call f1 (evA_cs (ev_idx (ev_var rfl) ev_int rfl rfl) (evA_cs (ev_add (ev_idx (ev_var rfl) ev_int rfl rfl) ev_int) (evA_cs (ev_sub (ev_var rfl) ev_int) evA_nl))) fun R X z => ⟨okDs_mem h1 (by simp), i + 1, n - 1, rfl, rfl, z⟩) ?_
        have : isTieB n (.tup [.int i, y]) = btw y (i + 1) (n - 1) := by
          show (btw (.int i) 0 (n - 1) && btw y (i + 1) (n - 1)) = _
          rw [z2] <;> rfl
        rw [← this]
        exact h2
      | _ => cases z2
    · cases z1
/-! ### ascending -/
def ltD (a b : D) : Bool := match a, b with
  | .int i, .int j => decide (i < j)
  | _, _ => dataLt (encD a) (encD b)
def ascP (xs : List D) : Bool := (List.range (xs.length - 1)).all fun k => ltD (xs.getD k .non) (xs.getD (k + 1) .non)
def ascIE : IE := .lc false (.cmp .lt (.idx (.var 0) (.bin .sub false (.var 3) (.int 1))) (.idx (.var 0) (.var 3))) [3] false (.range2 (.int 1) (.bi .len false (.cs (.var 0) .nl))) false .nl [3]
theorem asc_ok {Φ : Md} {μ : Mu} {xs : List D} {m : D} (hl : xs.length ≤ lim) (h : ∀ k x y, xs[k]? = some x → xs[k + 1]? = some y → ∀ R : Bool → Prop, R (ltD x y) → opLt x y μ R) :
    ev Φ (.bi .all false (.cs ascIE .nl)) (startD 4 [.tup xs, m]) μ (.bl (ascP xs)) := by
  have e1 : evI Φ (.range2 (.int 1) (.bi .len false (.cs (.var 0) .nl))) (startD 4 [.tup xs, m]) μ ((List.range (((xs.length : Nat) : Int) - 1).toNat).map fun k => D.int (1 + (k : Nat))) :=
    evI_range2 ev_int (ev_len (ev_var (d := .tup xs) rfl) rfl) (by unfold lim; omega) (by unfold lim; omega) (by omega) (by unfold lim; omega)
  have e2 := ev_lc (Φ := Φ) (μ := μ) (ρ := startD 4 [.tup xs, m]) (c := .nl) (el := .cmp .lt (.idx (.var 0) (.bin .sub false (.var 3) (.int 1))) (.idx (.var 0) (.var 3))) (tg := [3]) (own := [3]) (tp := false) (f := fun d => match d with
    | .int i => .bl (ltD (xs.getD (i - 1).toNat .non) (xs.getD i.toNat .non))
    | _ => .non) e1 (by rw [List.length_map, List.length_range]; omega) (fun d hd R q => by
      obtain ⟨k, hk, rfl⟩ := List.mem_map.mp hd
      rw [List.mem_range] at hk
      have hk1 : k < xs.length := by omega
      have hk2 : k + 1 < xs.length := by omega
      have g1 : xs[k]? = some xs[k] := List.getElem?_eq_getElem hk1
      have g2 : xs[k + 1]? = some xs[k + 1] := List.getElem?_eq_getElem hk2
      refine q _ (ev_cmp (ev_idxN (n := k) (ev_var (d := .tup xs) rfl) (ev_sub (ev_var (d := .int (1 + (k : Nat))) rfl) ev_int) rfl (by omega) g1) (ev_idxN (n := k + 1) (ev_var (d := .tup xs) rfl) (ev_var (d := .int (1 + (k : Nat))) rfl) rfl (by omega) g2) fun R z => ?_)
      refine h k _ _ g1 g2 R ?_
      have n1 : (1 + (k : Int) - 1).toNat = k := by omega
      have n2 : (1 + (k : Int)).toNat = k + 1 := by omega
      rw [n1, n2, List.getD_eq_getElem?_getD, List.getD_eq_getElem?_getD, g1, g2] at z
      exact z)
  have e3 : (((List.range (((xs.length : Nat) : Int) - 1).toNat).map fun k => D.int (1 + (k : Nat))).map fun d => match d with
    | .int i => D.bl (ltD (xs.getD (i - 1).toNat .non) (xs.getD i.toNat .non))
    | _ => .non) = ((List.range (xs.length - 1)).map fun k => ltD (xs.getD k .non) (xs.getD (k + 1) .non)).map D.bl := by
    have n0 : (((xs.length : Nat) : Int) - 1).toNat = xs.length - 1 := by omega
    rw [n0, List.map_map, List.map_map]
    apply List.map_congr_left
    intro k _
    have n1 : (1 + (k : Int) - 1).toNat = k := by omega
    have n2 : (1 + (k : Int)).toNat = k + 1 := by omega
    show D.bl (ltD (xs.getD (1 + (k : Int) - 1).toNat .non) (xs.getD (1 + (k : Int)).toNat .non)) = _
    rw [n1, n2] <;> rfl
  rw [e3] at e2
  have e4 := ev_all (m := false) e2
  rw [List.all_map] at e4
  exact e4
def areTiesB (n : Int) : D → Bool
  | .tup ds => ds.all (isTieB n) && ascP ds
  | _ => false
def lenOk : D → Prop
  | .tup ds => ds.length ≤ 900000
  | _ => True
def sp_are_ties : DSp := sp2 fun a m μ R X => okD a = true ∧ lenOk a ∧ ∃ n, m = .int n ∧ R (.bl (areTiesB n a)) μ
theorem tie_form {n : Int} {d : D} (h : isTieB n d = true) : ∃ i j, d = .tup [.int i, .int j] ∧ 0 ≤ i ∧ i + 1 ≤ j ∧ j ≤ n - 1 := by
  unfold isTieB at h
  split at h
  · rename_i x y
    rw [Bool.and_eq_true] at h
    cases x with
    | int i =>
      cases y with
      | int j =>
        have h1 : (decide (0 ≤ i) && decide (i ≤ n - 1)) = true := h.1
        have h2 : (decide (i + 1 ≤ j) && decide (j ≤ n - 1)) = true := h.2
        simp only [Bool.and_eq_true, decide_eq_true_eq] at h1 h2
        exact ⟨i, j, rfl, h1.1, h2.1, h2.2⟩
      | _ => exact (Bool.false_ne_true h.2).elim
    | _ => exact (Bool.false_ne_true h.2).elim
  · cases h
theorem lt_pair {μ : Mu} {i j k l : Int} {R : Bool → Prop} (h : R (ltD (.tup [.int i, .int j]) (.tup [.int k, .int l]))) : opLt (.tup [.int i, .int j]) (.tup [.int k, .int l]) μ R :=
  ⟨.tuple [.int i, .int j], .tuple [.int k, .int l], rfl, rfl, rfl, (fun z => by cases z), (by simp [PyData.depth, PyData.depthAll]), h⟩
/-- isinstance tuple, and all of it -/
theorem tup_all {Φ : Md} {ρ : Rho} {μ : Mu} {a : D} {c : IE} {q : Bool} (h0 : ρ[0]? = some (some a)) (h1 : okD a = true) (hc : ∀ ds, a = .tup ds → evT Φ c ρ μ q) (hq : (∀ ds, a ≠ .tup ds) → q = true) :
    evT Φ (.or (.not (.inst (.var 0) .tuple)) c) ρ μ q := by
  have e : evT Φ (.not (.inst (.var 0) .tuple)) ρ μ (!isTy .tuple a) := evT_not (evT_inst (ev_var h0) (okD_ty h1))
  cases a with
  | tup ds =>
    have := evT_or e fun _ => hc ds rfl
    exact this
  | _ =>
    have hq := hq (fun _ z => by cases z)
    subst hq
    have := evT_or (b := c) (q := true) e fun z => by cases z
    exact this
theorem m_are_ties {Φ : Md} (f1 : Φ.fns "is_tie" = some sp_is_tie) : ∀ a m μ R X, (okD a = true ∧ lenOk a ∧ ∃ n, m = .int n ∧ R (.bl (areTiesB n a)) μ) → semS Φ i_are_ties (startD 4 [a, m]) μ (dEnd R X) := by
  rintro a _ μ R X ⟨h1, hl, n, rfl, h2⟩
  have ec : ∀ ds, a = .tup ds → evT Φ (.not (.bi .all false (.cs (.lc false (.call "is_tie" (.cs (.var 2) (.cs (.var 1) .nl))) [2] false (.var 0) false .nl [2]) .nl))) (startD 4 [a, .int n]) μ (!(match a with
      | .tup ds => ds.all (isTieB n)
      | _ => false)) := by
    rintro ds rfl
    have hl : ds.length ≤ 900000 := hl
    have e2 := ev_lc (Φ := Φ) (μ := μ) (ρ := startD 4 [.tup ds, .int n]) (c := .nl) (el := .call "is_tie" (.cs (.var 2) (.cs (.var 1) .nl))) (tg := [2]) (own := [2]) (tp := false) (f := fun d => .bl (isTieB n d)) (evI_var (i := 0) rfl rfl) (by unfold lim; omega) (fun d hd R q =>
      q _ (ev_call f1 (evA_cs (ev_var (d := d) rfl) (evA_cs (ev_var (d := .int n) rfl) evA_nl)) fun R X z => ⟨okDs_mem h1 hd, n, rfl, z⟩))
    have e3 : ds.map (fun d => D.bl (isTieB n d)) = (ds.map (isTieB n)).map D.bl := by rw [List.map_map] <;> rfl
    rw [e3] at e2
    have e4 := evT_all (m := false) e2
    rw [List.all_map] at e4
    exact evT_not e4
  refine if_ret (tup_all (a := a) rfl h1 ec (fun z => ?_)) (fun z => ⟨ev_bl, ?_⟩) (fun z => ?_)
  · cases a <;> first | rfl | exact absurd rfl (z _)
  · have : areTiesB n a = false := by
      unfold areTiesB
      cases a with
      | tup ds =>
        have z : (!(ds.all (isTieB n))) = true := z
        rw [Bool.not_eq_true'] at z
        show (ds.all (isTieB n) && ascP ds) = false
        rw [z] <;> rfl
      | _ => rfl
    rw [this] at h2
    exact h2
  · cases a with
    | tup ds =>
      have z : (!(ds.all (isTieB n))) = false := z
      rw [Bool.not_eq_false'] at z
      have hl : ds.length ≤ 900000 := hl
      have all := List.all_eq_true.mp z
      refine ret_ev (asc_ok (by unfold lim; omega) fun k x y e1 e2 R r => ?_) ?_
      · obtain ⟨i, j, rfl, _⟩ := tie_form (all x (List.mem_of_getElem? e1))
        obtain ⟨i', j', rfl, _⟩ := tie_form (all y (List.mem_of_getElem? e2))
        exact lt_pair r
      · have : areTiesB n (.tup ds) = ascP ds := by
          show (ds.all (isTieB n) && ascP ds) = _
          rw [z] <;> rfl
        rw [← this]
        exact h2
    | _ => cases z
def isWebB : D → Bool
  | .tup [x, y] => btw x 1 24 && match x with
    | .int n => areTiesB n y
    | _ => false
  | _ => false
def webLen : D → Prop
  | .tup [_, y] => lenOk y
  | _ => True
def sp_is_web : DSp := sp1 fun a μ R X => okD a = true ∧ webLen a ∧ R (.bl (isWebB a)) μ
theorem m_is_web {Φ : Md} (f1 : Φ.fns "is_between" = some sp_is_between) (f2 : Φ.fns "are_ties" = some sp_are_ties) (g1 : Φ.nums "MOST_CORNERS" = some 24) : ∀ a μ R X, (okD a = true ∧ webLen a ∧ R (.bl (isWebB a)) μ) → semS Φ i_is_web (startD 1 [a]) μ (dEnd R X) := by
  rintro a μ R X ⟨h1, hl, h2⟩
  have ec : ∀ x y, a = .tup [x, y] → evT Φ (.not (.call "is_between" (.cs (.idx (.var 0) (.int 0)) (.cs (.int 1) (.cs (.glob "MOST_CORNERS") .nl))))) (startD 1 [a]) μ (!(match a with
      | .tup [x, y] => btw x 1 24
      | _ => false)) := by
    rintro x y rfl
    refine evT_not (evT_call f1 (evA_cs (ev_idx (ev_var rfl) ev_int rfl rfl) (evA_cs ev_int (evA_cs (ev_glob g1) evA_nl))) fun R X z => ?_)
    exact ⟨okDs_mem h1 (by simp), 1, 24, rfl, rfl, z⟩
  refine if_ret (pair_ev (a := a) rfl h1 ec) (fun z => ⟨ev_bl, ?_⟩) (fun z => ?_)
  · have : isWebB a = false := by
      rw [Bool.or_eq_true, Bool.not_eq_true', Bool.not_eq_true'] at z
      unfold isWebB
      split
      · rcases z with z | z
        · cases z
        · rw [show btw _ 1 24 = false from z] <;> rfl
      · rfl
    rw [this] at h2
    exact h2
  · rw [Bool.or_eq_false_iff, Bool.not_eq_false', Bool.not_eq_false'] at z
    obtain ⟨z1, z2⟩ := z
    unfold isPair at z1
    split at z1
    · rename_i x y
      have z2 : btw x 1 24 = true := z2
      cases x with
      | int i =>
        refine ret_ev (ev_call f2 (evA_cs (ev_idx (ev_var rfl) ev_int rfl rfl) (evA_cs (ev_idx (ev_var rfl) ev_int rfl rfl) evA_nl)) fun R X z => ⟨okDs_mem h1 (by simp), hl, i, rfl, z⟩) ?_
        have : isWebB (.tup [.int i, y]) = areTiesB i y := by
          show (btw (.int i) 1 24 && areTiesB i y) = _
          rw [z2] <;> rfl
        rw [← this]
        exact h2
      | _ => cases z2
    · cases z1
def sp_need_web : DSp := sp1 fun a μ R X => okD a = true ∧ webLen a ∧ (isWebB a = true → R .non μ) ∧ (isWebB a = false → X ⟨"NoWeb", []⟩ μ)
theorem m_need_web {Φ : Md} (f1 : Φ.fns "is_web" = some sp_is_web) (o : Φ.own "NoWeb" = true) : ∀ a μ R X, (okD a = true ∧ webLen a ∧ (isWebB a = true → R .non μ) ∧ (isWebB a = false → X ⟨"NoWeb", []⟩ μ)) → semS Φ i_need_web (startD 1 [a]) μ (dEnd R X) := by
  rintro a μ R X ⟨h1, hl, h2, h3⟩
  have e : evT Φ (.not (.call "is_web" (.cs (.var 0) .nl))) (startD 1 [a]) μ (!isWebB a) := evT_not (evT_call f1 (evA_cs (ev_var (d := a) rfl) evA_nl) fun R X z => ⟨h1, hl, z⟩)
  refine if_ev e (fun q => ?_) (fun q => ?_)
  · exact ⟨o, fun _ => true, h3 (by simpa using q)⟩
  · exact ⟨fun _ => true, h2 (by simpa using q)⟩
theorem btw_form {i j : Int} {d : D} (h : btw d i j = true) : ∃ n, d = .int n ∧ i ≤ n ∧ n ≤ j := by
  unfold btw at h
  split at h
  · simp only [Bool.and_eq_true, decide_eq_true_eq] at h
    exact ⟨_, rfl, h.1, h.2⟩
  · cases h
end PL
/-! B2: the hand, things drawn -/
namespace PL
open PySem PySem.Spec PyProof.Rows L2 PySem.W

theorem asg_lst {Φ : Md} {ρ : Rho} {μ : Mu} {E : End} {rest : IS} {j : Nat} (h : ∀ x, μ x = none → semS Φ rest (ρ.set j (some (.ref x))) (μ.set x (.lst [])) E) : semS Φ (.sq (.asg (.nm j) (.lst true .nl)) rest) ρ μ E := h
def handM (cs : List Int) (a b c d : Int) : MO := .lst [.lst (cs.map .int), .int a, .int b, .int c, .int d]
def IsHand (m : MO) : Prop := ∃ (cs : List Int) (a b c d : Int), m = handM cs a b c d ∧ 0 ≤ a
def HandAt (μ : Mu) (h : Addr) : Prop := ∃ M, μ h = some M ∧ IsHand M
def sp_hand : DSp := sp1 fun s μ R X => ∃ ns : List Int, s = .rd (ns.map .int) ∧ ns.length ≤ 1000 ∧ ∀ a M, μ a = none → IsHand M → R (.ref a) (μ.set a M)
theorem m_hand {Φ : Md} : ∀ s μ R X, (∃ ns : List Int, s = .rd (ns.map .int) ∧ ns.length ≤ 1000 ∧ ∀ a M, μ a = none → IsHand M → R (.ref a) (μ.set a M)) → semS Φ i__law_hand (startD 3 [s]) μ (dEnd R X) := by
  rintro _ μ R X ⟨ns, rfl, hl, h⟩
  have e0 : evP Φ (.slice false (.var 0) .nl (.int 63)) (startD 3 [.rd (ns.map .int)]) μ ((ns.take 63).map .int) := fun R X z => by
    refine ⟨_, rfl, ns.map .int, rfl, ?_⟩
    have : cutD (ns.map D.int) none (some ((63 : Nat) : Int)) = (ns.take 63).map .int := by rw [cut_take, List.map_take]
    show srcOf (.lst (cutD (ns.map D.int) none (some ((63 : Nat) : Int)))) μ R
    rw [this]
    exact z
  have e1 := ev_lc (Φ := Φ) (μ := μ) (ρ := startD 3 [.rd (ns.map .int)]) (c := .nl) (el := .bi .abs false (.cs (.bi .int false (.cs (.var 2) .nl)) .nl)) (tg := [2]) (tp := false) (own := [2]) (f := fun d => match d with
    | .int i => .int (if i < 0 then -i else i)
    | _ => .non) e0.i (by rw [List.length_map, List.length_take]; unfold lim; omega) (fun d hd R q => by
      obtain ⟨i, _, rfl⟩ := List.mem_map.mp hd
      exact q _ (ev_abs (ev_toInt (ev_var rfl))))
  have e2 : ((ns.take 63).map D.int).map (fun d => match d with
    | .int i => D.int (if i < 0 then -i else i)
    | _ => .non) = ((ns.take 63).map fun i => if i < 0 then -i else i).map D.int := by rw [List.map_map, List.map_map] <;> rfl
  rw [e2] at e1
  generalize ((ns.take 63).map fun i => if i < 0 then -i else i) = cs at e1
  refine asg_ev e1 (ret_sem ?_)
  refine (evA_cs (ev_var (d := .lst (cs.map .int)) rfl) (evA_cs ev_int (evA_cs ev_int (evA_cs (ev_add ev_int (ev_mul ev_int (ev_len (ev_var (d := .lst (cs.map .int)) rfl) rfl) (cmul_l (by decide) (by decide)))) (evA_cs ev_int evA_nl))))) _ _ ?_
  intro a ha
  exact ⟨fun _ => true, 0, h a _ ha ⟨cs, 0, 0, _, 0, rfl, Int.le_refl 0⟩⟩
def i_draw_tail : IS :=
  (.sq (.ite (.cmp .gt (.idx (.var 0) (.int 2)) (.int 0)) (.sq (.asg (.nm 3) (.bin .mod false (.bi .int false (.cs (.idx (.var 0) (.int 2)) .nl)) (.var 1)))
    (.sq (.asg (.sub (.var 0) (.int 2)) (.bin .fdiv false (.idx (.var 0) (.int 2)) (.var 1)))
    (.sq (.ret (.var 3))
    .nop))) .nop)
  (.sq (.asg (.sub (.var 0) (.int 4)) (.bin .add false (.idx (.var 0) (.int 4)) (.int 1)))
  (.sq (.asg (.nm 4) (.bin .mod false (.bi .int false (.cs (.bin .mul false (.bi .int false (.cs (.bin .add false (.idx (.var 0) (.int 3)) (.bin .mul false (.int 6007) (.idx (.var 0) (.int 4)))) .nl)) (.int 69621)) .nl)) (.int 2147483629)))
  (.sq (.asg (.nm 4) (.bin .mod false (.bi .int false (.cs (.bin .mul false (.var 4) (.bin .add false (.bin .fdiv false (.var 4) (.int 1013)) (.int 48271))) .nl)) (.int 2147483647)))
  (.sq (.asg (.nm 4) (.bin .mod false (.bi .int false (.cs (.bin .mul false (.var 4) (.bin .add false (.bin .fdiv false (.var 4) (.int 2011)) (.int 16807))) .nl)) (.int 2147483587)))
  (.sq (.ret (.bin .mod false (.bi .int false (.cs (.bin .fdiv false (.var 4) (.int 32)) .nl)) (.var 1)))
  .nop))))))
theorem hset {Φ : Md} {ρ : Rho} {μ : Mu} {E : End} {rest : IS} {e : IE} {h : Addr} {ds : List D} {k : Nat} {d : D} (h0 : ρ[0]? = some (some (.ref h))) (hm : μ h = some (.lst ds)) (hk : k < ds.length) (he : ev Φ e ρ μ d) (q : semS Φ rest ρ (μ.set h (.lst (ds.set k d))) E) :
    semS Φ (.sq (.asg (.sub (.var 0) (.int (k : Nat))) e) rest) ρ μ E :=
  asg_sub (ev_var h0) ev_int he (.inl ⟨h, ds, (k : Nat), k, rfl, rfl, hm, by unfold ixN; rw [if_pos (Int.natCast_nonneg k), if_pos (by omega)] <;> rfl, q⟩)
theorem hget {Φ : Md} {ρ : Rho} {μ : Mu} {h : Addr} {ds : List D} {k : Nat} {d : D} (h0 : ρ[0]? = some (some (.ref h))) (hm : μ h = some (.lst ds)) (hk : ds[k]? = some d) : ev Φ (.idx (.var 0) (.int (k : Nat))) ρ μ d :=
  ev_idxN (x := .ref h) (xs := ds) (ev_var h0) ev_int (by show (match μ h with | some (.lst ds) => some ds | _ => none) = some ds; rw [hm]) rfl hk
theorem mod_nat {x : Int} {m : Nat} (h : 0 < m) : ∃ k : Nat, k < m ∧ x % (m : Int) = (k : Int) := by
  have h1 := Int.emod_nonneg x (show (m : Int) ≠ 0 by omega)
  have h2 := Int.emod_lt_of_pos x (show (0 : Int) < m by omega)
  exact ⟨(x % (m : Int)).toNat, by omega, by omega⟩
theorem draw_tail {Φ : Md} {μ : Mu} {R : RD} {X : RX} {h : Addr} {m : Nat} {cs : List Int} {a b c d : Int} {o2 o3 o4 : Option D} (hm : 0 < m) (hm2 : m ≤ 1000000) (ha : 0 ≤ a) (e : μ h = some (handM cs a b c d)) (q : ∀ (k : Nat) M', k < m → IsHand M' → R (.int k) (μ.set h M')) :
    semS Φ i_draw_tail [some (.ref h), some (.int m), o2, o3, o4] μ (dEnd R X) := by
  have g : ∀ (o3 o4 : Option D), ev Φ (.idx (.var 0) (.int 2)) [some (.ref h), some (.int m), o2, o3, o4] μ (.int b) := fun o3 o4 => hget (k := 2) rfl e rfl
  refine if_ev (p := decide (0 < b)) (evT_cmp (g o3 o4) ev_int fun R z => cmp_gt z) (fun _ => ?_) (fun _ => ?_)
  · obtain ⟨k, hk, ek⟩ := mod_nat (x := b) hm
    refine asg_ev (d := .int k) (by have := ev_mod (m := false) (ev_toInt (m := false) (g o3 o4)) (ev_var (i := 1) (d := .int m) rfl) (by omega); rw [ek] at this; exact this) ?_
    refine hset (k := 2) rfl e (by show 2 < 5; decide) (ev_div (g _ _) (ev_var (i := 1) (d := .int m) rfl) ⟨by omega, by omega⟩) ?_
    exact ret_E (ev_var rfl) (ret0 (X := X) (q k _ hk ⟨cs, a, b / m, c, d, rfl, ha⟩))
  · refine hset (k := 4) rfl e (by show 4 < 5; decide) (ev_add (hget (k := 4) rfl e rfl) ev_int) ?_
    have e2 : (μ.set h (.lst ([.lst (cs.map .int), .int a, .int b, .int c, .int d].set 4 (.int (d + 1))))) h = some (handM cs a b c (d + 1)) := Mu.set_same
    generalize hμ : μ.set h (.lst ([.lst (cs.map .int), .int a, .int b, .int c, .int d].set 4 (.int (d + 1)))) = μ2 at e2
    refine asg_ev (ev_mod (ev_toInt (ev_mul (ev_toInt (ev_add (hget (k := 3) rfl e2 rfl) (ev_mul ev_int (hget (k := 4) rfl e2 rfl) (cmul_l (by decide) (by decide))))) ev_int (cmul_r (by decide) (by decide)))) ev_int (by decide)) ?_
    generalize hn : ((c + 6007 * (d + 1)) * 69621) % 2147483629 = n1
    have h1 : 0 ≤ n1 ∧ n1 < 2147483629 := by rw [← hn]; exact ⟨Int.emod_nonneg _ (by decide), Int.emod_lt_of_pos _ (by decide)⟩
    refine asg_ev (ev_mod (ev_toInt (ev_mul (ev_var (i := 4) (d := .int n1) rfl) (ev_add (ev_div (ev_var (i := 4) (d := .int n1) rfl) ev_int ⟨by decide, by decide⟩) ev_int) (cmul_l (by omega) (by omega)))) ev_int (by decide)) ?_
    generalize hn2 : (n1 * (n1 / 1013 + 48271)) % 2147483647 = n2
    have h2 : 0 ≤ n2 ∧ n2 < 2147483647 := by rw [← hn2]; exact ⟨Int.emod_nonneg _ (by decide), Int.emod_lt_of_pos _ (by decide)⟩
    refine asg_ev (ev_mod (ev_toInt (ev_mul (ev_var (i := 4) (d := .int n2) rfl) (ev_add (ev_div (ev_var (i := 4) (d := .int n2) rfl) ev_int ⟨by decide, by decide⟩) ev_int) (cmul_l (by omega) (by omega)))) ev_int (by decide)) ?_
    generalize hn3 : (n2 * (n2 / 2011 + 16807)) % 2147483587 = n3
    obtain ⟨k, hk, ek⟩ := mod_nat (x := n3 / 32) hm
    refine ret_ev (d := .int ((n3 / 32) % (m : Int))) (ev_mod (ev_toInt (ev_div (ev_var (i := 4) (d := .int n3) rfl) ev_int ⟨by decide, by decide⟩)) (ev_var (i := 1) (d := .int m) rfl) (by omega)) ?_
    rw [ek]
    rw [← hμ]
    exact q k _ hk ⟨cs, a, b, c, d + 1, rfl, ha⟩
def sp_draw : DSp := sp2 fun x y μ R X => ∃ (h : Addr) (m : Nat) (M : MO), x = .ref h ∧ y = .int m ∧ 0 < m ∧ m ≤ 1000000 ∧ μ h = some M ∧ IsHand M ∧ ∀ (k : Nat) M', k < m → IsHand M' → R (.int k) (μ.set h M')
theorem m_draw {Φ : Md} : ∀ x y μ R X, (∃ (h : Addr) (m : Nat) (M : MO), x = .ref h ∧ y = .int m ∧ 0 < m ∧ m ≤ 1000000 ∧ μ h = some M ∧ IsHand M ∧ ∀ (k : Nat) M', k < m → IsHand M' → R (.int k) (μ.set h M')) → semS Φ i__law_draw (startD 5 [x, y]) μ (dEnd R X) := by
  rintro _ _ μ R X ⟨h, m, _, rfl, rfl, hm, hm2, e, ⟨cs, a, b, c, d, rfl, ha⟩, q⟩
  have g2 : ev Φ (.idx (.var 0) (.int 2)) (startD 5 [.ref h, .int m]) μ (.int b) := hget (k := 2) rfl e rfl
  have g1 : ∀ o : Option D, ev Φ (.idx (.var 0) (.int 1)) [some (.ref h), some (.int m), o, none, none] μ (.int a) := fun o => hget (k := 1) rfl e rfl
  have g0 : ∀ o : Option D, ev Φ (.idx (.var 0) (.int 0)) [some (.ref h), some (.int m), o, none, none] μ (.lst (cs.map .int)) := fun o => hget (k := 0) rfl e rfl
  refine if_ev (p := decide (b = 0) && decide (a < ((cs.map D.int).length : Nat))) (evT_and (evT_cmp g2 ev_int fun R z => cmp_eq z) fun _ => evT_cmp (g1 none) (ev_len (g0 none) rfl) fun R z => cmp_lt z) (fun z => ?_) (fun _ => draw_tail hm hm2 ha e q)
  rw [Bool.and_eq_true, decide_eq_true_eq, decide_eq_true_eq, List.length_map] at z
  obtain ⟨_, z⟩ := z
  have hk : a.toNat < cs.length := by omega
  refine asg_ev (d := .int (cs.getD a.toNat 0)) (ev_idxN (n := a.toNat) (g0 none) (g1 none) rfl (by omega) (by rw [List.getElem?_map, getD_some hk] <;> rfl)) ?_
  refine hset (k := 1) rfl e (by show 1 < 5; decide) (ev_add (g1 _) ev_int) ?_
  have e2 : (μ.set h (.lst ([.lst (cs.map .int), .int a, .int b, .int c, .int d].set 1 (.int (a + 1))))) h = some (handM cs (a + 1) b c d) := Mu.set_same
  refine hset (k := 3) rfl e2 (by show 3 < 5; decide) (ev_mod (ev_toInt (ev_add (ev_add (ev_mul (hget (k := 3) rfl e2 rfl) ev_int (cmul_r (by decide) (by decide))) (ev_var (i := 2) (d := .int (cs.getD a.toNat 0)) rfl)) ev_int)) ev_int (by decide)) ?_
  rw [Mu.set_set]
  generalize ((c * 48271 + cs.getD a.toNat 0 + 11) % 2147483647) = c2
  have e3 : (μ.set h (.lst (List.set [.lst (cs.map .int), .int (a + 1), .int b, .int c, .int d] 3 (.int c2)))) h = some (handM cs (a + 1) b c2 d) := Mu.set_same
  refine if_ev (p := decide ((10 : Int) ^ (18 : Int).toNat ≤ cs.getD a.toNat 0)) (evT_cmp (o := .ge) (ev_var (i := 2) (d := .int (cs.getD a.toNat 0)) rfl) (ev_pow ev_int ev_int ⟨by decide, by decide, by decide⟩) fun R z => z) (fun _ => ?_) (fun _ => ?_)
  · refine hset (k := 2) rfl e3 (by show 2 < 5; decide) (ev_var (i := 2) (d := .int (cs.getD a.toNat 0)) rfl) ?_
    rw [Mu.set_set]
    refine draw_tail (cs := cs) (a := a + 1) (b := cs.getD a.toNat 0) (c := c2) (d := d) hm hm2 (by omega) Mu.set_same fun k M' hk hM => ?_
    rw [Mu.set_set]
    exact q k M' hk hM
  · refine draw_tail (cs := cs) (a := a + 1) (b := b) (c := c2) (d := d) hm hm2 (by omega) e3 fun k M' hk hM => ?_
    rw [Mu.set_set]
    exact q k M' hk hM
section
variable {Φ : Md} {ρ : Rho} {μ : Mu} {E : End} {rest : IS} {a b e1 e2 : IE}
theorem draw_sem {R : RD} {X : RX} {h : Addr} {m : Nat} {M : MO} (f : Φ.fns "_law_draw" = some sp_draw) (ha : ev Φ a ρ μ (.ref h)) (hb : ev Φ b ρ μ (.int m)) (hm : 0 < m) (hm2 : m ≤ 1000000) (e : μ h = some M) (hM : IsHand M) (q : ∀ (k : Nat) M', k < m → IsHand M' → R (.int k) (μ.set h M')) :
    semE Φ (.call "_law_draw" (.cs a (.cs b .nl))) ρ μ R X := ⟨_, f, evA_cs ha (evA_cs hb evA_nl) _ _ ⟨h, m, M, rfl, rfl, hm, hm2, e, hM, q⟩⟩
theorem asg2_ev {i j : Nat} {d1 d2 : D} (h1 : ev Φ e1 ρ μ d1) (h2 : ev Φ e2 ρ μ d2) (k : semS Φ rest ((ρ.set i (some d1)).set j (some d2)) μ E) : semS Φ (.sq (.asg2 (.nm i) (.nm j) e1 e2) rest) ρ μ E := h1 _ _ (h2 _ _ k)
theorem asg2_sem {i j : Nat} (h : semE Φ e1 ρ μ (fun d1 μ1 => semE Φ e2 ρ μ1 (fun d2 μ2 => semS Φ rest ((ρ.set i (some d1)).set j (some d2)) μ2 E) (fun x μ' => E.ex x ρ μ')) (fun x μ' => E.ex x ρ μ')) : semS Φ (.sq (.asg2 (.nm i) (.nm j) e1 e2) rest) ρ μ E := h
theorem idx_sem {R : RD} {X : RX} (h : semE Φ a ρ μ (fun x μ1 => semE Φ b ρ μ1 (fun y μ2 => opIdx x y μ2 R) X) X) : semE Φ (.idx a b) ρ μ R X := h
theorem meth_sem {R : RD} {X : RX} {n : Mth} (h : semE Φ a ρ μ (fun x μ1 => (ritems μ1 x).isSome = true ∧ semA Φ b ρ μ1 (fun ds μ2 => opMeth n x ds μ2 R) X) X) : semE Φ (.meth a n b) ρ μ R X := h
theorem one_sem {R : List D → Mu → Prop} {X : RX} (h : semE Φ a ρ μ (fun x μ1 => R [x] μ1) X) : semA Φ (.cs a .nl) ρ μ R X := h
theorem bin_sem {R : RD} {X : RX} {o : BOp} {m : Bool} (h : semE Φ a ρ μ (fun x μ1 => semE Φ b ρ μ1 (fun y μ2 => opBin o m x y μ2 R) X) X) : semE Φ (.bin o m a b) ρ μ R X := h
theorem cmpT_sem {R : Bool → Mu → Prop} {X : RX} {o : COp} (h : semE Φ a ρ μ (fun x μ1 => semE Φ b ρ μ1 (fun y μ2 => opCmp o x y μ2 fun k => R k μ2) X) X) : semT Φ (.cmp o a b) ρ μ R X := h
theorem cmp_sem {R : RD} {X : RX} {o : COp} (h : semE Φ a ρ μ (fun x μ1 => semE Φ b ρ μ1 (fun y μ2 => opCmp o x y μ2 fun k => R (.bl k) μ2) X) X) : semE Φ (.cmp o a b) ρ μ R X := h
theorem call_sem {R : RD} {X : RX} {g : Str} {s : DSp} (f : Φ.fns g = some s) (h : semA Φ a ρ μ (fun ds μ1 => s.sp ds μ1 R X) X) : semE Φ (.call g a) ρ μ R X := ⟨s, f, h⟩
theorem cs_sem {R : List D → Mu → Prop} {X : RX} (h : semE Φ a ρ μ (fun x μ1 => semA Φ b ρ μ1 (fun xs μ2 => R (x :: xs) μ2) X) X) : semA Φ (.cs a b) ρ μ R X := h
theorem if_sem {c : IE} {s1 s2 : IS} (h : semT Φ c ρ μ (fun k μ1 => match k with
      | true => semS Φ s1 ρ μ1 { E with nx := fun ρ1 μ1 => semS Φ rest ρ1 μ1 E }
      | false => semS Φ s2 ρ μ1 { E with nx := fun ρ1 μ1 => semS Φ rest ρ1 μ1 E }) (fun x μ' => E.ex x ρ μ')) : semS Φ (.sq (.ite c s1 s2) rest) ρ μ E := h
theorem for_sem {tg : List Nat} {tp : Bool} {it : IE} {s1 : IS} (h : semI Φ it ρ μ (fun ds g μ1 => forT g (bindD tg tp) (fun ρ μ E => semS Φ s1 ρ μ E) ds ρ μ1 { E with nx := fun ρ1 μ1 => semS Φ rest ρ1 μ1 E }) (fun x μ' => E.ex x ρ μ')) : semS Φ (.sq (.for tg tp it s1) rest) ρ μ E := h
theorem expr_sem {e : IE} (h : semE Φ e ρ μ (fun _ μ1 => semS Φ rest ρ μ1 E) (fun x μ' => E.ex x ρ μ')) : semS Φ (.sq (.expr e) rest) ρ μ E := h
end
theorem atI_nat {xs : List D} {k : Nat} {d : D} (h : xs[k]? = some d) : atI xs (k : Int) = some d := by
  have hl : k < xs.length := (List.getElem?_eq_some_iff.mp h).1
  unfold atI ixN
  rw [if_pos (Int.natCast_nonneg k), if_pos (by omega)]
  exact h
def sp_some : DSp := sp2 fun x y μ R X => ∃ (h : Addr) (ds : List D) (M : MO), x = .ref h ∧ y = .lst ds ∧ 0 < ds.length ∧ ds.length ≤ 1000000 ∧ μ h = some M ∧ IsHand M ∧ ∀ d M', d ∈ ds → IsHand M' → R d (μ.set h M')
theorem m_some {Φ : Md} (f : Φ.fns "_law_draw" = some sp_draw) : ∀ x y μ R X, (∃ (h : Addr) (ds : List D) (M : MO), x = .ref h ∧ y = .lst ds ∧ 0 < ds.length ∧ ds.length ≤ 1000000 ∧ μ h = some M ∧ IsHand M ∧ ∀ d M', d ∈ ds → IsHand M' → R d (μ.set h M')) → semS Φ i__law_some (startD 2 [x, y]) μ (dEnd R X) := by
  rintro _ _ μ R X ⟨h, ds, M, rfl, rfl, h0, h1, e, hM, q⟩
  refine ret_sem (idx_sem (ev_var (i := 1) (d := .lst ds) rfl _ _ (draw_sem f (ev_var rfl) (ev_len (ev_var (d := .lst ds) rfl) rfl) h0 h1 e hM fun k M' hk hM' => ?_)))
  exact .inl ⟨ds, (k : Int), ds[k], rfl, rfl, atI_nat (List.getElem?_eq_getElem hk), fun _ => true, 0, q _ _ (List.getElem_mem hk) hM'⟩
theorem Cells.fz1 {μ0 μ : Mu} {as : List Addr} {os : List MO} {a : Addr} {m : MO} {k : Nat} (c : Cells μ0 μ as os) (h1 : as[k]? = some a) (h2 : os[k]? = some m) : PL.fz μ (kp as) 1 (.ref a) = moD m := by
  have e := c.has k a m h1 h2
  show (match kp as a with
        | true => D.ref a
        | false => match μ a with
          | .some (.lst ds) => .lst (ds.map (PL.fz μ (kp as) 0))
          | .some (.dK ks) => .dK (ks.map fun p : Key × D => (p.1, PL.fz μ (kp as) 0 p.2))
          | none => .ref a) = _
  have hkp : kp as a = false := by
    unfold kp
    rw [decide_eq_true (List.mem_of_getElem? h1)]
    rfl
  rw [hkp, e]
  cases m with
  | lst ds =>
    show D.lst (ds.map (PL.fz μ (kp as) 0)) = _
    rw [map_fz0] <;> rfl
  | dK ks =>
    show D.dK (ks.map fun p : Key × D => (p.1, PL.fz μ (kp as) 0 p.2)) = _
    rw [mapK_fz0] <;> rfl
theorem perm_erase {α : Type} : ∀ {xs : List α} {k : Nat} {x : α}, xs[k]? = some x → (x :: xs.eraseIdx k).Perm xs
  | [], _, _, h => by simp at h
  | y :: ys, 0, x, h => by
    simp at h
    subst h
    exact List.Perm.refl _
  | y :: ys, k + 1, x, h => by
    have h : ys[k]? = some x := by simpa using h
    show (x :: y :: ys.eraseIdx k).Perm (y :: ys)
    exact (List.Perm.swap y x _).trans ((perm_erase h).cons y)
def sp_mixed : DSp := sp2 fun x y μ R X => ∃ (h : Addr) (ds : List D) (M : MO), x = .ref h ∧ y = .lst ds ∧ ds.length ≤ 1000 ∧ μ h = some M ∧ IsHand M ∧ ∀ ds' M', ds'.Perm ds → IsHand M' → R (.lst ds') (μ.set h M')
theorem m_mixed {Φ : Md} (f : Φ.fns "_law_draw" = some sp_draw) : ∀ x y μ R X, (∃ (h : Addr) (ds : List D) (M : MO), x = .ref h ∧ y = .lst ds ∧ ds.length ≤ 1000 ∧ μ h = some M ∧ IsHand M ∧ ∀ ds' M', ds'.Perm ds → IsHand M' → R (.lst ds') (μ.set h M')) → semS Φ i__law_mixed (startD 4 [x, y]) μ (dEnd R X) := by
  rintro _ _ μ R X ⟨h, ds, M, rfl, rfl, hl, e, hM, q⟩
  refine asg2_sem (evA_cs (ev_var (i := 1) (d := .lst ds) rfl) evA_nl _ _ ⟨ds, rfl, fun a ha b hb => ?_⟩)
  have c0 : Cells μ ((μ.set a (.lst ds)).set b (.lst [])) [a, b] [.lst ds, .lst []] := (Cells.nil.add ha).add hb
  refine ⟨fun n ρ1 μ1 => ∃ l fo M1, ρ1 = [some (.ref h), some (.lst ds), some (.ref a), some (.ref b)] ∧ IsHand M1 ∧ Cells (μ.set h M1) μ1 [a, b] [.lst l, .lst fo] ∧ l.length = n ∧ (fo ++ l).Perm ds, ⟨ds.length, ds, [], M, rfl, hM, by rw [Mu.set_self e]; exact c0, rfl, List.Perm.refl _⟩, ?_⟩
  rintro n ρ1 μ1 ⟨l, fo, M1, rfl, hM1, c, rfl, pm⟩
  have hll : l.length ≤ 1000 := by
    have := pm.length_eq
    rw [List.length_append] at this
    omega
  have hfl : fo.length ≤ 1000 := by
    have := pm.length_eq
    rw [List.length_append] at this
    omega
  have ea : μ1 a = some (.lst l) := c.has 0 a _ rfl rfl
  have el : ev Φ (.bi .len false (.cs (.var 2) .nl)) [some (.ref h), some (.lst ds), some (.ref a), some (.ref b)] μ1 (.int (l.length : Nat)) := ev_len (ev_var (d := .ref a) rfl) (by show (match μ1 a with | some (.lst ds) => some ds | _ => none) = _; rw [ea])
  refine evT_cmp el ev_int (fun R z => cmp_gt z) _ _ ?_
  cases hz : decide ((0 : Int) < (l.length : Nat)) with
  | false =>
    have hz := of_decide_eq_false hz
    have : l = [] := List.eq_nil_of_length_eq_zero (by omega)
    subst this
    rw [List.append_nil] at pm
    refine ret_sem (ev_var (i := 3) (d := .ref b) rfl _ _ ⟨kp [a, b], 1, ?_⟩)
    rw [c.fz1 (k := 1) rfl rfl, c.cut]
    exact q fo M1 pm hM1
  | true =>
    have hz := of_decide_eq_true hz
    have eh : μ1 h = some M1 := c.keep (m0 := M1) Mu.set_same
    have eb : μ1 b = some (.lst fo) := c.has 1 b _ rfl rfl
    have rb : (ritems μ1 (.ref b)).isSome = true := by
      show ((match μ1 b with | some (.lst ds) => some ds | _ => none).isSome = true)
      rw [eb] <;> rfl
    have ra : (ritems μ1 (.ref a)).isSome = true := by
      show ((match μ1 a with | some (.lst ds) => some ds | _ => none).isSome = true)
      rw [ea] <;> rfl
    refine expr_sem (meth_sem (ev_var (i := 3) (d := .ref b) rfl _ _ ⟨rb, one_sem (meth_sem (ev_var (i := 2) (d := .ref a) rfl _ _ ⟨ra, one_sem ?_⟩))⟩))
    refine draw_sem f (ev_var rfl) el (by omega) (by omega) eh hM1 fun k M2 hk hM2 => ?_
    have c2 := c.out (h := h) (m0 := M1) Mu.set_same M2
    rw [Mu.set_set] at c2
    refine ⟨l, k, l[k], c2.has 0 a _ rfl rfl, rfl, List.getElem?_eq_getElem hk, by unfold lim; omega, ?_⟩
    have c3 := c2.put (k := 0) (a := a) (m := .lst (l.eraseIdx k)) rfl
    refine ⟨fo, c3.has 1 b _ rfl rfl, by unfold lim; omega, ?_⟩
    have c4 := c3.put (k := 1) (a := b) (m := .lst (fo ++ [l[k]])) rfl
    refine ⟨l.length - 1, by omega, l.eraseIdx k, fo ++ [l[k]], M2, rfl, hM2, c4, by rw [List.length_eraseIdx, if_pos hk], ?_⟩
    rw [List.append_assoc]
    exact ((perm_erase (List.getElem?_eq_getElem hk)).append_left fo).trans pm
end PL
/-! B3: kept: a thing told is the thing due. -/
namespace PL
open PySem PySem.Spec PyProof.Rows L2 PySem.W

/-- plain things, not deeper than n -/
def pureD : Nat → D → Prop
  | _, .non => True
  | _, .bl _ => True
  | _, .int _ => True
  | _, .str _ => True
  | n + 1, .tup ds => ds.length ≤ lim ∧ ∀ d, d ∈ ds → pureD n d
  | n + 1, .lst ds => ds.length ≤ lim ∧ ∀ d, d ∈ ds → pureD n d
  | _, _ => False
theorem pureD_ty {n : Nat} {d : D} {μ : Mu} (h : pureD n d) : tyable μ d = true := by
  cases n <;> cases d <;> first | rfl | exact h.elim
theorem pureD_succ : ∀ {n : Nat} {d : D}, pureD n d → pureD (n + 1) d
  | 0, d, h => by cases d <;> first | trivial | exact h.elim
  | n + 1, d, h => by
    cases d <;> first | trivial | exact h.elim | exact ⟨h.1, fun e he => pureD_succ (h.2 e he)⟩
def sp_kept (n : Nat) : DSp := sp2 fun a b μ R X => a = b ∧ pureD n a ∧ R (.bl true) μ
theorem kept_seq {Φ : Md} {μ : Mu} {n : Nat} {d : D} {ds : List D} (hf : Φ.fns "_law_kept" = some (sp_kept n)) (hi : items μ d = some ds) (hl : ds.length ≤ lim) (hp : ∀ d, d ∈ ds → pureD n d) :
    ev Φ (.and (.cmp .eq (.bi .len false (.cs (.var 0) .nl)) (.bi .len false (.cs (.var 1) .nl))) (.bi .all false (.cs (.lc false (.call "_law_kept" (.cs (.idx (.var 0) (.var 2)) (.cs (.idx (.var 1) (.var 2)) .nl))) [2] false (.range1 (.bi .len false (.cs (.var 1) .nl))) false .nl [2]) .nl))) [some d, some d, none] μ (.bl true) := by
  have v0 : ∀ o, ev Φ (.var 0) [some d, some d, o] μ d := fun o => ev_var rfl
  have v1 : ∀ o, ev Φ (.var 1) [some d, some d, o] μ d := fun o => ev_var rfl
  refine ev_and (p := true) (q := true) ?_ fun _ => ?_
  · exact ev_cmp (ev_len (v0 _) hi) (ev_len (v1 _) hi) fun R z => cmp_eq (by rw [decide_eq_true rfl]; exact z)
  · have e1 := evP_range1 (Φ := Φ) (ev_len (m := false) (v1 none) hi) (by omega) (by unfold lim; omega)
    have e2 := ev_lc (Φ := Φ) (μ := μ) (ρ := [some d, some d, none]) (c := .nl) (el := .call "_law_kept" (.cs (.idx (.var 0) (.var 2)) (.cs (.idx (.var 1) (.var 2)) .nl))) (tg := [2]) (own := [2]) (tp := false) (f := fun _ => .bl true) e1.i (by rw [List.length_map, List.length_range]; omega) (fun x hx R q => by
      obtain ⟨k, hk, rfl⟩ := List.mem_map.mp hx
      rw [List.mem_range] at hk
      have hk : k < ds.length := by omega
      have g : ds[k]? = some ds[k] := List.getElem?_eq_getElem hk
      exact q _ (ev_call hf (evA_cs (ev_idxN (v0 _) (ev_var (d := .int (k : Nat)) rfl) hi rfl g) (evA_cs (ev_idxN (v1 _) (ev_var (d := .int (k : Nat)) rfl) hi rfl g) evA_nl)) fun R X z => ⟨rfl, hp _ (List.getElem_mem hk), z⟩))
    have e3 : ((List.range (((ds.length : Nat) : Int)).toNat).map fun i => D.int (i : Nat)).map (fun _ => D.bl true) = ((List.range ds.length).map fun _ => true).map D.bl := by
      rw [List.map_map, List.map_map, Int.toNat_natCast] <;> rfl
    rw [e3] at e2
    have e4 := ev_all (m := false) e2
    have : ((List.range ds.length).map fun _ => true).all id = true := by
      rw [List.all_map, List.all_eq_true]
      exact fun _ _ => rfl
    rw [this] at e4
    exact e4
theorem m_kept {Φ : Md} {n : Nat} (hf : ∀ m, n = m + 1 → Φ.fns "_law_kept" = some (sp_kept m)) : ∀ a b μ R X, (a = b ∧ pureD n a ∧ R (.bl true) μ) → semS Φ i__law_kept (startD 3 [a, b]) μ (dEnd R X) := by
  rintro a _ μ R X ⟨rfl, hp, h⟩
  have ty := pureD_ty (μ := μ) hp
  have v1 : ev Φ (.var 1) (startD 3 [a, a]) μ a := ev_var rfl
  have v0 : ev Φ (.var 0) (startD 3 [a, a]) μ a := ev_var rfl
  have i1 : ∀ t, evT Φ (.inst (.var 1) t) (startD 3 [a, a]) μ (isTy t a) := fun t => evT_inst v1 ty
  have j1 : ∀ t, ev Φ (.inst (.var 1) t) (startD 3 [a, a]) μ (.bl (isTy t a)) := fun t => ev_inst v1 ty
  have j0 : ∀ t, ev Φ (.inst (.var 0) t) (startD 3 [a, a]) μ (.bl (isTy t a)) := fun t => ev_inst v0 ty
  have ne : ∀ t, evT Φ (.cmp .ne (.inst (.var 0) t) (.inst (.var 1) t)) (startD 3 [a, a]) μ false := fun t => evT_cmp (j0 t) (j1 t) fun R z => by
    show R (!decide (isTy t a = isTy t a))
    rw [decide_eq_true rfl]
    exact z
  have seq : ∀ ds, (a = .tup ds ∨ a = .lst ds) → semS Φ i__law_kept (startD 3 [a, a]) μ (dEnd R X) := fun ds hd => by
    refine if_ev (p := true) ?_ (fun _ => ?_) (fun z => by cases z)
    · have := evT_or (i1 .tuple) fun _ => i1 .list
      rcases hd with rfl | rfl <;> exact this
    · refine if_ev (p := false) (evT_or (ne .tuple) fun _ => ne .list) (fun z => by cases z) (fun _ => ?_)
      cases n with
      | zero => rcases hd with rfl | rfl <;> exact hp.elim
      | succ n =>
        have hh : ds.length ≤ lim ∧ ∀ d, d ∈ ds → pureD n d := by rcases hd with rfl | rfl <;> exact hp
        have hi : items μ a = some ds := by rcases hd with rfl | rfl <;> rfl
        exact ret_E (kept_seq (hf n rfl) hi hh.1 hh.2) (ret0 (X := X) h)
  have notseq : isTy .tuple a = false → isTy .list a = false → ∀ {rest : IS} {s1 : IS}, semS Φ rest (startD 3 [a, a]) μ (dEnd R X) → semS Φ (.sq (.ite (.or (.inst (.var 1) .tuple) (.inst (.var 1) .list)) s1 .nop) rest) (startD 3 [a, a]) μ (dEnd R X) := fun h1 h2 rest s1 k => by
    refine if_ev (p := false) (evT_or (p := false) (q := false) (by have := i1 .tuple; rw [h1] at this; exact this) fun _ => by have := i1 .list; rw [h2] at this; exact this) (fun z => by cases z) (fun _ => k)
  have isn : evT Φ (.cmp .is (.var 1) .non) (startD 3 [a, a]) μ (isNon a) := evT_cmp v1 ev_non fun R z => z
  cases a with
  | tup ds => exact seq ds (.inl rfl)
  | lst ds => exact seq ds (.inr rfl)
  | non =>
    refine notseq rfl rfl (if_ret (p := true) (d := .bl true) isn (fun _ => ⟨ev_cmp v0 ev_non fun R z => z, h⟩) (fun z => by cases z))
  | bl p =>
    refine notseq rfl rfl (if_ev (p := false) isn (fun z => by cases z) (fun _ => ?_))
    refine if_ret (p := true) (d := .bl true) (i1 .bool) (fun _ => ⟨?_, h⟩) (fun z => by cases z)
    refine ev_ite (evT_var rfl) (fun e => ?_) (fun e => ?_)
    · subst e
      exact ev_cmp (y := .bl true) v0 ev_bl fun R z => z
    · subst e
      exact ev_cmp (y := .bl false) v0 ev_bl fun R z => z
  | int i =>
    refine notseq rfl rfl (if_ev (p := false) isn (fun z => by cases z) (fun _ => if_ev (p := false) (i1 .bool) (fun z => by cases z) (fun _ => ?_)))
    refine if_ret (p := true) (d := .bl true) (i1 .int) (fun _ => ⟨?_, h⟩) (fun z => by cases z)
    have := ev_and (j0 .int) fun _ => ev_and (ev_not (j0 .bool)) fun _ => ev_cmp (p := true) v0 v1 fun R z => cmp_eq (by rw [decide_eq_true rfl]; exact z)
    exact this
  | str s =>
    refine notseq rfl rfl (if_ev (p := false) isn (fun z => by cases z) (fun _ => if_ev (p := false) (i1 .bool) (fun z => by cases z) (fun _ => if_ev (p := false) (i1 .int) (fun z => by cases z) (fun _ => ?_))))
    refine ret_ev (d := .bl true) ?_ h
    have := ev_and (j0 .str) fun _ => ev_cmp (p := true) v0 v1 fun R z => cmp_eqs (by rw [decide_eq_true rfl]; exact z)
    exact this
  | ref _ => cases n <;> exact hp.elim
  | dK _ => cases n <;> exact hp.elim
  | rd _ => cases n <;> exact hp.elim
  | fn _ => cases n <;> exact hp.elim
end PL
/-! B4: webs, tables, grids -/
namespace PL
open PySem PySem.Spec PyProof.Rows L2 PySem.W

/-! ### webs -/
def lexN (p q : Nat × Nat) : Prop := p.1 < q.1 ∨ (p.1 = q.1 ∧ p.2 < q.2)
structure GoodTs (n : Nat) (ts : List (Nat × Nat)) : Prop where
  b : ∀ p, p ∈ ts → p.1 < p.2 ∧ p.2 < n
  s : ts.Pairwise lexN
  l : ts.length ≤ 600
def rowTs (n : Nat) (t : Nat → Nat → Bool) (a : Nat) : List (Nat × Nat) := ((List.range (n - (a + 1))).map fun k => (a, a + 1 + k)).filter fun p => t p.1 p.2
def upTs (n : Nat) (t : Nat → Nat → Bool) (i : Nat) : List (Nat × Nat) := (List.range i).flatMap (rowTs n t)
theorem row_mem {n : Nat} {t : Nat → Nat → Bool} {a : Nat} {p : Nat × Nat} (h : p ∈ rowTs n t a) : p.1 = a ∧ a < p.2 ∧ p.2 < n := by
  unfold rowTs at h
  obtain ⟨h1, _⟩ := List.mem_filter.mp h
  obtain ⟨k, hk, rfl⟩ := List.mem_map.mp h1
  rw [List.mem_range] at hk
  exact ⟨rfl, by show a < a + 1 + k; omega, by show a + 1 + k < n; omega⟩
theorem up_good {n : Nat} {t : Nat → Nat → Bool} (hn : n ≤ 24) : GoodTs n (upTs n t n) := by
  refine ⟨fun p hp => ?_, ?_, ?_⟩
  · obtain ⟨a, _, h⟩ := List.mem_flatMap.mp hp
    obtain ⟨h1, h2, h3⟩ := row_mem h
    exact ⟨by omega, h3⟩
  · unfold upTs
    rw [List.pairwise_flatMap]
    refine ⟨fun a _ => ?_, ?_⟩
    · unfold rowTs
      rw [List.pairwise_filter, List.pairwise_map]
      exact List.pairwise_lt_range.imp fun {x y} h _ _ => .inr ⟨rfl, by show a + 1 + x < a + 1 + y; omega⟩
    · exact List.pairwise_lt_range.imp fun {x y} h p hp q hq => .inl (by
        obtain ⟨h1, _⟩ := row_mem hp
        obtain ⟨h2, _⟩ := row_mem hq
        omega)
  · refine Nat.le_trans (flat_le (m := 24) fun a _ => ?_) ?_
    · refine Nat.le_trans (List.length_filter_le _ _) ?_
      rw [List.length_map, List.length_range]
      omega
    · rw [List.length_range]
      omega
def sp_web : DSp := sp1 fun x μ R X => ∃ n t, x = matD n t ∧ n ≤ 24 ∧ R (webD n (upTs n t n)) μ
theorem m_web {Φ : Md} : ∀ x μ R X, (∃ n t, x = matD n t ∧ n ≤ 24 ∧ R (webD n (upTs n t n)) μ) → semS Φ i__law_web (startD 5 [x]) μ (dEnd R X) := by
  rintro _ μ R X ⟨n, t, rfl, hn, q⟩
  refine asg2_ev (ev_len (ev_var (d := matD n t) rfl) rfl) (ev_lst evA_nl) ?_
  rw [List.length_map, List.length_range]
  refine for_evP (evP_range1 (j := (n : Int)) (ev_var rfl) (by unfold lim; omega) (by unfold lim; omega)) ?_
  rw [Int.toNat_natCast]
  refine forT_by (fun i ρ μ1 => μ1 = μ ∧ ∃ o, ρ = [some (matD n t), some (.int n), some (.lst ((upTs n t i).map pairD)), o, none]) ⟨rfl, none, rfl⟩ (fun _ _ _ _ _ => trivial) (fun i d ρ μ1 N hd hp k => ?_) (fun ρ μ1 hp => ?_)
  · obtain ⟨rfl, o, rfl⟩ := hp
    have hi : i < n := by
      have := (List.getElem?_eq_some_iff.mp hd).1
      simpa using this
    rw [range_at hi] at hd
    cases hd
    have lenU : (upTs n t i).length ≤ 600 := by
      refine Nat.le_trans (flat_le (m := 24) fun a _ => ?_) ?_
      · refine Nat.le_trans (List.length_filter_le _ _) ?_
        rw [List.length_map, List.length_range]
        omega
      · rw [List.length_range]
        omega
    show semS Φ (.sq _ .nop) [some (matD n t), some (.int n), some (.lst ((upTs n t i).map pairD)), some (natD i), none] μ1 _
    have c1 := ev_lcF (Φ := Φ) (μ := μ1) (ρ := [some (matD n t), some (.int n), some (.lst ((upTs n t i).map pairD)), some (natD i), none]) (c := .idx (.idx (.var 0) (.var 3)) (.var 4)) (el := .tup (.cs (.var 3) (.cs (.var 4) .nl))) (it := .range2 (.bin .add false (.var 3) (.int 1)) (.var 1)) (tg := [4]) (tp := false) (own := [4])
      (f := fun d => match d with
        | .int j => if t i j.toNat then some (pairD (i, j.toNat)) else none
        | _ => none) (evP_range2 (i := (i : Int) + 1) (j := (n : Int)) (ev_add (ev_var (i := 3) (d := natD i) rfl) ev_int) (ev_var (i := 1) rfl) (by unfold lim; omega) (by unfold lim; omega) (by unfold lim; omega) (by unfold lim; omega)).i (by rw [List.length_map, List.length_range]; unfold lim; omega) (fun d hd R q => by
        obtain ⟨s, hs, rfl⟩ := List.mem_map.mp hd
        have hs : s < n - (i + 1) := by
          have := List.mem_range.mp hs
          omega
        have ej : ((i : Int) + 1 + (s : Nat)) = ((i + 1 + s : Nat) : Int) := by omega
        rw [ej]
        refine q _ ⟨t i (i + 1 + s), evT_idx (ev_idxN (n := i + 1 + s) (ev_idxN (n := i) (x := matD n t) (ev_var (d := matD n t) rfl) (ev_var (d := natD i) rfl) rfl rfl (range_at hi)) (ev_var (d := natD (i + 1 + s)) rfl) rfl rfl (range_at (by omega))), fun z => ⟨pairD (i, i + 1 + s), ?_, ev_tup (evA_cs (ev_var rfl) (evA_cs (ev_var rfl) evA_nl))⟩, fun z => ?_⟩
        · show (if t i ((i + 1 + s : Nat) : Int).toNat then some (pairD (i, ((i + 1 + s : Nat) : Int).toNat)) else none) = _
          rw [Int.toNat_natCast, z] <;> rfl
        · show (if t i ((i + 1 + s : Nat) : Int).toNat then some (pairD (i, ((i + 1 + s : Nat) : Int).toNat)) else none) = _
          rw [Int.toNat_natCast, z] <;> rfl)
    have c2 : (((List.range ((n : Int) - ((i : Int) + 1)).toNat).map fun k => D.int ((i : Int) + 1 + (k : Nat))).filterMap fun d => match d with
        | .int j => if t i j.toNat then some (pairD (i, j.toNat)) else none
        | _ => none) = (rowTs n t i).map pairD := by
      have : ((n : Int) - ((i : Int) + 1)).toNat = n - (i + 1) := by omega
      rw [this]
      unfold rowTs
      rw [List.filterMap_map, List.filter_map, List.map_map]
      induction (List.range (n - (i + 1))) with
      | nil => rfl
      | cons k ks ih =>
        rw [List.filterMap_cons, List.filter_cons]
        have ek : ((i : Int) + 1 + (k : Nat)).toNat = i + 1 + k := by omega
        have h0 : ((fun d => match d with
            | D.int j => if t i j.toNat then some (pairD (i, j.toNat)) else none
            | _ => none) ∘ fun k : Nat => D.int ((i : Int) + 1 + (k : Nat))) k = if t i (i + 1 + k) then some (pairD (i, i + 1 + k)) else none := by
          show (if t i ((i : Int) + 1 + (k : Nat)).toNat then some (pairD (i, ((i : Int) + 1 + (k : Nat)).toNat)) else none) = _
          rw [ek]
        rw [h0]
        cases h : t i (i + 1 + k) with
        | true =>
          rw [if_pos rfl]
          have h2 : ((fun p : Nat × Nat => t p.1 p.2) ∘ fun k => (i, i + 1 + k)) k = true := h
          rw [h2, if_pos rfl, List.map_cons]
          exact congrArg _ ih
        | false =>
          have h2 : ((fun p : Nat × Nat => t p.1 p.2) ∘ fun k => (i, i + 1 + k)) k = false := h
          rw [if_neg Bool.false_ne_true, h2, if_neg Bool.false_ne_true]
          exact ih
    rw [c2] at c1
    have c3 : ev Φ (.bin .add false (.var 2) (.lc false (.tup (.cs (.var 3) (.cs (.var 4) .nl))) [4] false (.range2 (.bin .add false (.var 3) (.int 1)) (.var 1)) true (.idx (.idx (.var 0) (.var 3)) (.var 4)) [4])) [some (matD n t), some (.int n), some (.lst ((upTs n t i).map pairD)), some (natD i), none] μ1 (.lst ((upTs n t (i + 1)).map pairD)) := by
      intro R X z
      refine bin_sem (ev_var (i := 2) (d := .lst ((upTs n t i).map pairD)) rfl _ _ (c1 _ _ ⟨(upTs n t i).map pairD, (rowTs n t i).map pairD, rfl, rfl, ?_, ?_⟩))
      · have : (rowTs n t i).length ≤ 24 := by
          refine Nat.le_trans (List.length_filter_le _ _) ?_
          rw [List.length_map, List.length_range]
          omega
        rw [List.length_map, List.length_map]
        unfold lim
        omega
      · have : (upTs n t (i + 1)).map pairD = (upTs n t i).map pairD ++ (rowTs n t i).map pairD := by
          unfold upTs
          rw [List.range_succ, List.flatMap_append, List.map_append]
          simp
        rw [this] at z
        exact z
    exact asg_ev c3 (k _ _ ⟨rfl, _, rfl⟩)
  · obtain ⟨rfl, o, rfl⟩ := hp
    rw [List.length_map, List.length_range]
    refine ret_ev (ev_tup (evA_cs (ev_var (d := .int n) rfl) (evA_cs (ev_bi (d := .tup ((upTs n t n).map pairD)) (evA_cs (ev_var (d := .lst ((upTs n t n).map pairD)) rfl) evA_nl) fun R z => ⟨_, rfl, z⟩) evA_nl))) q
theorem up_mem {n : Nat} {t : Nat → Nat → Bool} {p : Nat × Nat} : p ∈ upTs n t n ↔ p.1 < p.2 ∧ p.2 < n ∧ t p.1 p.2 = true := by
  unfold upTs rowTs
  rw [List.mem_flatMap]
  constructor
  · rintro ⟨a, ha, h⟩
    obtain ⟨h1, h2⟩ := List.mem_filter.mp h
    obtain ⟨k, hk, rfl⟩ := List.mem_map.mp h1
    rw [List.mem_range] at hk
    exact ⟨by show a < a + 1 + k; omega, by show a + 1 + k < n; omega, h2⟩
  · rintro ⟨h1, h2, h3⟩
    refine ⟨p.1, List.mem_range.mpr (by omega), List.mem_filter.mpr ⟨List.mem_map.mpr ⟨p.2 - (p.1 + 1), List.mem_range.mpr (by omega), ?_⟩, h3⟩⟩
    obtain ⟨x, y⟩ := p
    show (x, x + 1 + (y - (x + 1))) = (x, y)
    have h1 : x < y := h1
    rw [show x + 1 + (y - (x + 1)) = y by omega]
theorem adj_up {n : Nat} {t : Nat → Nat → Bool} {i j : Nat} (hi : i < n) (hj : j < n) : adjB (upTs n t n) i j = ((decide (i < j) && t i j) || (decide (j < i) && t j i)) := by
  rw [Bool.eq_iff_iff]
  unfold adjB
  rw [List.any_eq_true]
  simp only [Bool.or_eq_true, Bool.and_eq_true, decide_eq_true_eq]
  constructor
  · rintro ⟨p, hp, h⟩
    obtain ⟨h1, h2, h3⟩ := up_mem.mp hp
    rcases h with ⟨rfl, rfl⟩ | ⟨rfl, rfl⟩
    · exact .inl ⟨h1, h3⟩
    · exact .inr ⟨h1, h3⟩
  · rintro (⟨h, k⟩ | ⟨h, k⟩)
    · exact ⟨(i, j), up_mem.mpr ⟨h, hj, k⟩, .inl ⟨rfl, rfl⟩⟩
    · exact ⟨(j, i), up_mem.mpr ⟨h, hi, k⟩, .inr ⟨rfl, rfl⟩⟩
theorem mat_congr {n : Nat} {t u : Nat → Nat → Bool} (h : ∀ i j, i < n → j < n → t i j = u i j) : matD n t = matD n u := by
  unfold matD rowD
  congr 1
  apply List.map_congr_left
  intro i hi
  congr 1
  apply List.map_congr_left
  intro j hj
  rw [h i j (List.mem_range.mp hi) (List.mem_range.mp hj)]
def rowM (r : List Bool) : MO := .lst (r.map .bl)
structure Grid (μ0 μ : Mu) (as : List Addr) (n : Nat) (rows : List (List Bool)) : Prop where
  c : Cells μ0 μ as (rows.map rowM)
  l : rows.length = n
  w : ∀ i, i < n → (rows.getD i []).length = n
def setB (rows : List (List Bool)) (i j : Nat) (b : Bool) : List (List Bool) := rows.set i ((rows.getD i []).set j b)
def atB (rows : List (List Bool)) (i j : Nat) : Bool := (rows.getD i []).getD j false
section
variable {Φ : Md} {ρ : Rho} {μ0 μ : Mu} {as : List Addr} {n : Nat} {rows : List (List Bool)}
theorem Grid.row (g : Grid μ0 μ as n rows) {i : Nat} (hi : i < n) : ∃ a, as[i]? = some a ∧ (as.map D.ref)[i]? = some (.ref a) ∧ μ a = some (rowM (rows.getD i [])) := by
  refine g.c.at ?_
  rw [List.getElem?_map, getD_some (by rw [g.l]; exact hi)] <;> rfl
theorem Grid.set (g : Grid μ0 μ as n rows) {i j : Nat} {b : Bool} {a : Addr} (hi : i < n) (ha : as[i]? = some a) : Grid μ0 (μ.set a (rowM ((rows.getD i []).set j b))) as n (setB rows i j b) := by
  refine ⟨?_, by unfold setB; rw [List.length_set]; exact g.l, fun k hk => ?_⟩
  · have := g.c.put (m := rowM ((rows.getD i []).set j b)) ha
    rw [← List.map_set] at this
    exact this
  · unfold setB
    rw [getD_set (by rw [g.l]; exact hi)]
    split
    · rw [List.length_set]; exact g.w i hi
    · exact g.w k hk
theorem Grid.out (g : Grid μ0 μ as n rows) {h : Addr} {m0 : MO} (e : μ0 h = some m0) (m : MO) : Grid (μ0.set h m) (μ.set h m) as n rows := ⟨g.c.out e m, g.l, g.w⟩
theorem Grid.keep (g : Grid μ0 μ as n rows) {h : Addr} {m0 : MO} (e : μ0 h = some m0) : μ h = some m0 := g.c.keep e
theorem at_set {i j : Nat} {b : Bool} (g : Grid μ0 μ as n rows) (hi : i < n) (hj : j < n) (x y : Nat) : atB (setB rows i j b) x y = if x = i ∧ y = j then b else atB rows x y := by
  unfold atB setB
  rw [getD_set (by rw [g.l]; exact hi)]
  by_cases q : x = i
  · subst q
    rw [if_pos rfl, getD_set (by rw [g.w x hi]; exact hj)]
    by_cases q2 : y = j
    · rw [if_pos q2, if_pos ⟨rfl, q2⟩]
    · rw [if_neg q2, if_neg (fun h => q2 h.2)]
  · rw [if_neg q, if_neg (fun h => q h.1)]
theorem Grid.mat (g : Grid μ0 μ as n rows) : D.lst ((rows.map rowM).map moD) = matD n (atB rows) := by
  unfold matD rowD
  congr 1
  apply List.ext_getElem?
  intro i
  rw [List.getElem?_map, List.getElem?_map, List.getElem?_map]
  by_cases hi : i < n
  · rw [getD_some (by rw [g.l]; exact hi), List.getElem?_range hi]
    show some (D.lst ((rows.getD i []).map .bl)) = some (D.lst ((List.range n).map fun j => .bl (atB rows i j)))
    congr 2
    apply List.ext_getElem?
    intro j
    rw [List.getElem?_map, List.getElem?_map]
    by_cases hj : j < n
    · rw [getD_some (by rw [g.w i hi]; exact hj), List.getElem?_range hj] <;> rfl
    · rw [List.getElem?_eq_none (by rw [g.w i hi]; omega), List.getElem?_eq_none (by rw [List.length_range]; omega)] <;> rfl
  · rw [List.getElem?_eq_none (by rw [g.l]; omega), List.getElem?_eq_none (by rw [List.length_range]; omega)] <;> rfl
theorem Grid.ret {R : RD} (g : Grid μ0 μ as n rows) (h : R (matD n (atB rows)) μ0) : ∃ keep m, R (PL.fz μ keep m (.lst (as.map .ref))) (μ.cut keep) := g.c.ret (by rw [g.mat]; exact h)
theorem Grid.get (g : Grid μ0 μ as n rows) {a b : IE} {v i j : Nat} (h0 : ev Φ (.var v) ρ μ (.lst (as.map .ref))) (h1 : ev Φ a ρ μ (natD i)) (h2 : ev Φ b ρ μ (natD j)) (hi : i < n) (hj : j < n) : ev Φ (.idx (.idx (.var v) a) b) ρ μ (.bl (atB rows i j)) := by
  obtain ⟨x, e1, e2, e3⟩ := g.row hi
  refine ev_idxN (n := j) (x := .ref x) (xs := (rows.getD i []).map .bl) (ev_idxN (n := i) h0 h1 rfl rfl e2) h2 ?_ rfl ?_
  · show (match μ x with | some (.lst ds) => some ds | _ => none) = _
    rw [e3] <;> rfl
  · rw [List.getElem?_map, getD_some (by rw [g.w i hi]; exact hj)] <;> rfl
theorem Grid.put (g : Grid μ0 μ as n rows) {a b : IE} {v i j : Nat} {d : D} {c : Bool} {R : Rho → Mu → Prop} {X : RX} (h0 : ev Φ (.var v) ρ μ (.lst (as.map .ref))) (h1 : ev Φ a ρ μ (natD i)) (h2 : ev Φ b ρ μ (natD j)) (hd : d = .bl c) (hi : i < n) (hj : j < n) (hn : n ≤ 1000)
    (k : ∀ μ', Grid μ0 μ' as n (setB rows i j c) → R ρ μ') : semG Φ (.sub (.idx (.var v) a) b) d ρ μ R X := by
  subst hd
  obtain ⟨x, e1, e2, e3⟩ := g.row hi
  refine ev_idxN (n := i) h0 h1 rfl rfl e2 _ _ (h2 _ _ (.inl ⟨x, (rows.getD i []).map .bl, (j : Nat), j, rfl, rfl, e3, ?_, ?_⟩))
  · unfold ixN
    rw [List.length_map, g.w i hi, if_pos (Int.natCast_nonneg j), if_pos (by omega)] <;> rfl
  · refine k _ ?_
    rw [← List.map_set]
    exact g.set hi e1
theorem grid_sem {it e : IE} {t : Nat} {ds : List D} {R : RD} {X : RX} (hi : evP Φ it ρ μ ds) (hl : ds.length = n) (hn : n ≤ 1000) (he : ∀ d μ', ev Φ e ((wipeD ρ [t]).set t (some d)) μ' (.int n))
    (k : ∀ as μ', Grid μ μ' as n (List.replicate n (List.replicate n false)) → R (.lst (as.map .ref)) μ') : semE Φ (.lc false (.bin .mul true (.lst false (.cs (.bl false) .nl)) e) [t] false it false .nl [t]) ρ μ R X := by
  refine hi _ _ ⟨by rw [hl]; unfold lim; omega, ?_⟩
  refine turns_by (fun i acc μ1 => ∃ as, acc = as.map D.ref ∧ Cells μ μ1 as (List.replicate i (rowM (List.replicate n false)))) ⟨[], rfl, Cells.nil⟩ (fun i acc μ1 _ h => trivial) (fun i d acc μ1 K hd h k => ?_) (fun acc μ1 h => ?_)
  · obtain ⟨as, rfl, c⟩ := h
    refine (he d μ1) _ _ ⟨[.bl false], rfl, by unfold lim; omega, by omega, by show 1 * _ ≤ _; unfold lim; omega, fun a ha => k _ _ ⟨as ++ [a], by rw [List.map_append] <;> rfl, ?_⟩⟩
    rw [List.replicate_succ', Int.toNat_natCast]
    have : (List.replicate n [D.bl false]).flatten = (List.replicate n false).map .bl := by
      induction n with
      | zero => rfl
      | succ n ih =>
        clear hi he k
        rw [List.replicate_succ, List.flatten_cons, List.replicate_succ, List.map_cons]
        have : ∀ m : Nat, (List.replicate m [D.bl false]).flatten = (List.replicate m false).map .bl := fun m => by
          induction m with
          | zero => rfl
          | succ m ih => rw [List.replicate_succ, List.flatten_cons, List.replicate_succ, List.map_cons, ih] <;> rfl
        rw [this] <;> rfl
    rw [this]
    exact c.add ha
  · obtain ⟨as, rfl, c⟩ := h
    rw [hl] at c
    refine k as μ1 ⟨by rw [List.map_replicate]; exact c, by rw [List.length_replicate], fun i hi => ?_⟩
    rw [List.getD_eq_getElem?_getD, List.getElem?_replicate, if_pos hi]
    exact List.length_replicate
theorem getD_rep {α : Type} {n i : Nat} {x d : α} : (List.replicate n x).getD i d = if i < n then x else d := by
  rw [List.getD_eq_getElem?_getD, List.getElem?_replicate]
  split <;> rfl
theorem at_false {i j : Nat} : atB (List.replicate n (List.replicate n false)) i j = false := by
  unfold atB
  rw [getD_rep]
  split
  · rw [getD_rep]
    split <;> rfl
  · rfl
theorem asg2_pair {t1 t2 : Tgt} {e1 e2 : IE} {rest : IS} {E : End} {d1 d2 : D} (h1 : ev Φ e1 ρ μ d1) (h2 : ev Φ e2 ρ μ d2) (k : semG Φ t1 d1 ρ μ (fun ρ1 μ3 => semG Φ t2 d2 ρ1 μ3 (fun ρ2 μ4 => semS Φ rest ρ2 μ4 E) (fun x μ' => E.ex x ρ1 μ')) (fun x μ' => E.ex x ρ μ')) : semS Φ (.sq (.asg2 t1 t2 e1 e2) rest) ρ μ E := h1 _ _ (h2 _ _ k)
end
def sp_table : DSp := sp1 fun x μ R X => ∃ n ts, x = webD n ts ∧ (∀ p, p ∈ ts → p.1 < n ∧ p.2 < n) ∧ n ≤ 1000 ∧ ∀ t, (∀ i j, t i j = adjB ts i j) → R (matD n t) μ
theorem m_table {Φ : Md} : ∀ x μ R X, (∃ n ts, x = webD n ts ∧ (∀ p, p ∈ ts → p.1 < n ∧ p.2 < n) ∧ n ≤ 1000 ∧ ∀ t, (∀ i j, t i j = adjB ts i j) → R (matD n t) μ) → semS Φ i__law_table (startD 5 [x]) μ (dEnd R X) := by
  rintro _ μ R X ⟨n, ts, rfl, hts, hn, q⟩
  have e0 : ∀ (o1 o2 o3 o4 : Option D) (μ' : Mu), ev Φ (.idx (.var 0) (.int 0)) [some (webD n ts), o1, o2, o3, o4] μ' (.int n) := fun _ _ _ _ μ' => ev_idx (ev_var (d := webD n ts) rfl) ev_int rfl rfl
  refine asg_sem (grid_sem (n := n) (ds := (List.range n).map fun i => D.int (i : Nat)) (by have := evP_range1 (Φ := Φ) (e0 none none none none μ) (by unfold lim; omega) (by unfold lim; omega); rw [Int.toNat_natCast] at this; exact this) (by rw [List.length_map, List.length_range]) hn (fun d μ' => e0 none (some d) none none μ') fun as μ1 g => ?_)
  refine for_evP (ds := ts.map pairD) (evP_idx (ev_var (d := webD n ts) rfl) ev_int rfl rfl rfl) ?_
  refine forT_by (fun i ρ1 μ2 => ∃ rows o p, ρ1 = [some (webD n ts), some (.lst (as.map D.ref)), none, o, p] ∧ Grid μ μ2 as n rows ∧ ∀ x y, atB rows x y = adjB (ts.take i) x y) ⟨_, none, none, rfl, g, fun x y => by rw [at_false] <;> rfl⟩ (fun _ _ _ _ _ => trivial) (fun i d ρ1 μ2 N hd h k => ?_) (fun ρ1 μ2 h => ?_)
  · obtain ⟨rows, o, p, rfl, g2, ha⟩ := h
    rw [List.getElem?_map] at hd
    cases e : ts[i]? with
    | none => rw [e] at hd; cases hd
    | some q =>
      rw [e] at hd
      cases hd
      obtain ⟨h1, h2⟩ := hts q (List.mem_of_getElem? e)
      obtain ⟨x, y⟩ := q
      refine ⟨[.int x, .int y], rfl, rfl, ?_⟩
      refine asg2_pair ev_bl ev_bl (g2.put (i := x) (j := y) (ev_var rfl) (ev_var rfl) (ev_var rfl) rfl h1 h2 hn fun μ3 g3 => ?_)
      refine g3.put (i := y) (j := x) (ev_var rfl) (ev_var rfl) (ev_var rfl) rfl h2 h1 hn fun μ4 g4 => ?_
      refine k _ _ ⟨_, _, _, rfl, g4, fun z w => ?_⟩
      rw [at_set g3 h2 h1, at_set g2 h1 h2, ha, List.take_succ, e]
      unfold adjB
      rw [List.any_append]
      show _ = (_ || [(x, y)].any _)
      rw [List.any_cons, List.any_nil, Bool.or_false]
      show _ = (_ || ((decide (x = z) && decide (y = w)) || (decide (x = w) && decide (y = z))))
      have b1 : (decide (x = z) && decide (y = w)) = decide (z = x ∧ w = y) := by
        rw [← Bool.decide_and]
        exact decide_eq_decide.mpr (by omega)
      have b2 : (decide (x = w) && decide (y = z)) = decide (z = y ∧ w = x) := by
        rw [← Bool.decide_and]
        exact decide_eq_decide.mpr (by omega)
      rw [b1, b2]
      by_cases q1 : z = y ∧ w = x
      · rw [if_pos q1, decide_eq_true q1, Bool.or_true, Bool.or_true]
      · rw [if_neg q1, decide_eq_false q1, Bool.or_false]
        by_cases q2 : z = x ∧ w = y
        · rw [if_pos q2, decide_eq_true q2, Bool.or_true]
        · rw [if_neg q2, decide_eq_false q2, Bool.or_false] <;> rfl
  · obtain ⟨rows, o, p, rfl, g2, ha⟩ := h
    rw [List.length_map, List.take_length] at ha
    exact ret_sem (ev_var (i := 1) (d := .lst (as.map D.ref)) rfl _ _ (g2.ret (q _ ha)))
/-- a drawn table -/
def sp_random : DSp := sp2 fun x y μ R X => ∃ (h : Addr) (n : Nat) (M : MO), x = .ref h ∧ y = .int n ∧ n ≤ 1000 ∧ μ h = some M ∧ IsHand M ∧ ∀ t M', IsHand M' → R (matD n t) (μ.set h M')
theorem m_random {Φ : Md} (f : Φ.fns "_law_draw" = some sp_draw) : ∀ x y μ R X, (∃ (h : Addr) (n : Nat) (M : MO), x = .ref h ∧ y = .int n ∧ n ≤ 1000 ∧ μ h = some M ∧ IsHand M ∧ ∀ t M', IsHand M' → R (matD n t) (μ.set h M')) → semS Φ i__law_random (startD 7 [x, y]) μ (dEnd R X) := by
  rintro _ _ μ R X ⟨h, n, M, rfl, rfl, hn, e, hM, q⟩
  refine asg2_sem (bin_sem (ev_int _ _ (draw_sem (m := 4) f (ev_var rfl) ev_int (by omega) (by omega) e hM fun k0 M1 _ hM1 => ?_)))
  have em1 : (μ.set h M1) h = some M1 := Mu.set_same
  refine grid_sem (n := n) (ds := (List.range n).map fun i => D.int (i : Nat)) (by have := evP_range1 (Φ := Φ) (a := .var 1) (ρ := startD 7 [.ref h, .int n]) (μ := μ.set h M1) (j := (n : Int)) (ev_var rfl) (by unfold lim; omega) (by unfold lim; omega); rw [Int.toNat_natCast] at this; exact this) (by rw [List.length_map, List.length_range]) hn (fun d μ' => ev_var rfl) fun as μ2 g => ?_
  refine for_evP (ds := (List.range n).map fun i => D.int (i : Nat)) (by have := evP_range1 (Φ := Φ) (a := .var 1) (ρ := [some (D.ref h), some (D.int n), some (D.int (1 + (k0 : Nat))), some (.lst (as.map D.ref)), none, none, none]) (μ := μ2) (j := (n : Int)) (ev_var rfl) (by unfold lim; omega) (by unfold lim; omega); rw [Int.toNat_natCast] at this; exact this) ?_
  refine forT_by (fun i ρ1 μ3 => ∃ rows o p M3, ρ1 = [some (.ref h), some (.int n), some (.int (1 + (k0 : Nat))), some (.lst (as.map D.ref)), none, o, p] ∧ IsHand M3 ∧ Grid (μ.set h M3) μ3 as n rows) ⟨_, none, none, M1, rfl, hM1, g⟩ (fun _ _ _ _ _ => trivial) (fun i d ρ1 μ3 N hd hh k => ?_) (fun ρ1 μ3 hh => ?_)
  · obtain ⟨rows, o, p, M3, rfl, hM3, g3⟩ := hh
    have hi : i < n := by
      have := (List.getElem?_eq_some_iff.mp hd).1
      simpa using this
    rw [range_at hi] at hd
    cases hd
    show semS Φ (.sq _ .nop) [some (.ref h), some (.int n), some (.int (1 + (k0 : Nat))), some (.lst (as.map D.ref)), none, some (natD i), p] μ3 _
    refine for_evP (ds := (List.range i).map fun i => D.int (i : Nat)) (by have := evP_range1 (Φ := Φ) (a := .var 5) (ρ := [some (.ref h), some (.int n), some (.int (1 + (k0 : Nat))), some (.lst (as.map D.ref)), none, some (natD i), p]) (μ := μ3) (j := (i : Int)) (ev_var rfl) (by unfold lim; omega) (by unfold lim; omega); rw [Int.toNat_natCast] at this; exact this) ?_
    refine forT_by (fun j ρ1 μ3 => ∃ rows p M3, ρ1 = [some (.ref h), some (.int n), some (.int (1 + (k0 : Nat))), some (.lst (as.map D.ref)), none, some (natD i), p] ∧ IsHand M3 ∧ Grid (μ.set h M3) μ3 as n rows) ⟨rows, p, M3, rfl, hM3, g3⟩ (fun _ _ _ _ _ => trivial) (fun j d ρ1 μ4 N' hd hh k' => ?_) (fun ρ1 μ4 hh => ?_)
    · obtain ⟨rows, p, M4, rfl, hM4, g4⟩ := hh
      have hj : j < i := by
        have := (List.getElem?_eq_some_iff.mp hd).1
        simpa using this
      rw [range_at hj] at hd
      cases hd
      show semS Φ (.sq _ .nop) [some (.ref h), some (.int n), some (.int (1 + (k0 : Nat))), some (.lst (as.map D.ref)), none, some (natD i), some (natD j)] μ4 _
      refine if_sem (cmpT_sem (draw_sem (m := 5) f (ev_var rfl) ev_int (by omega) (by omega) (g4.keep (m0 := M4) Mu.set_same) hM4 fun k1 M5 _ hM5 => ?_))
      have g5 := g4.out (h := h) (m0 := M4) Mu.set_same M5
      rw [Mu.set_set] at g5
      refine ev_var (i := 2) (d := .int (1 + (k0 : Nat))) rfl _ _ ?_
      show (match decide ((k1 : Int) < 1 + (k0 : Nat)) with | true => _ | false => _)
      cases decide ((k1 : Int) < 1 + (k0 : Nat)) with
      | true =>
        refine asg2_pair ev_bl ev_bl (g5.put (i := i) (j := j) (ev_var rfl) (ev_var rfl) (ev_var rfl) rfl hi (by omega) hn fun μ6 g6 => ?_)
        refine g6.put (i := j) (j := i) (ev_var rfl) (ev_var rfl) (ev_var rfl) rfl (by omega) hi hn fun μ7 g7 => ?_
        exact k' _ _ ⟨_, _, M5, rfl, hM5, g7⟩
      | false => exact k' _ _ ⟨_, _, M5, rfl, hM5, g5⟩
    · obtain ⟨rows, p, M4, rfl, hM4, g4⟩ := hh
      exact k _ _ ⟨_, _, _, M4, rfl, hM4, g4⟩
  · obtain ⟨rows, o, p, M3, rfl, hM3, g3⟩ := hh
    exact ret_sem (ev_var (i := 3) (d := .lst (as.map D.ref)) rfl _ _ (g3.ret (q _ M3 hM3)))
section
variable {Φ : Md} {ρ : Rho} {μ : Mu} {E : End} {rest : IS} {a b e it1 it2 el : IE}
theorem asgG {t : Tgt} {d : D} (h : ev Φ e ρ μ d) (k : semG Φ t d ρ μ (fun ρ2 μ2 => semS Φ rest ρ2 μ2 E) (fun x μ' => E.ex x ρ μ')) : semS Φ (.sq (.asg t e) rest) ρ μ E := h _ _ k
theorem ev_rng1 {j : Int} (h : ev Φ a ρ μ (.int j)) (h1 : j ≤ lim) (h2 : -lim ≤ j) : ev Φ (.rng1 false a) ρ μ (.lst ((List.range j.toNat).map fun i => D.int (i : Nat))) := fun R X z => h _ _ ⟨h2, h1, z⟩
theorem ev_rng2 {i j : Int} (h : ev Φ a ρ μ (.int i)) (k : ev Φ b ρ μ (.int j)) (h1 : i ≤ lim) (h2 : -lim ≤ i) (h3 : j ≤ lim) (h4 : -lim ≤ j) : ev Φ (.rng2 false a b) ρ μ (.lst ((List.range (j - i).toNat).map fun k => D.int (i + (k : Nat)))) := fun R X z => h _ _ (k _ _ ⟨h2, h1, h4, h3, z⟩)
theorem ev_addL {xs ys : List D} (h : ev Φ a ρ μ (.lst xs)) (k : ev Φ b ρ μ (.lst ys)) (hl : xs.length + ys.length ≤ lim) : ev Φ (.bin .add false a b) ρ μ (.lst (xs ++ ys)) := fun R X z => h _ _ (k _ _ ⟨xs, ys, rfl, rfl, hl, z⟩)
theorem ev_addT {xs ys : List D} {m : Bool} (h : ev Φ a ρ μ (.tup xs)) (k : ev Φ b ρ μ (.tup ys)) (hl : xs.length + ys.length ≤ lim) : ev Φ (.bin .add m a b) ρ μ (.tup (xs ++ ys)) := fun R X z => h _ _ (k _ _ ⟨hl, z⟩)
theorem ev_mulL {x : D} {k : Nat} (h : ev Φ a ρ μ (.lst [x])) (h2 : ev Φ b ρ μ (.int k)) (hk : k ≤ 1000) : ev Φ (.bin .mul false a b) ρ μ (.lst (List.replicate k x)) := fun R X z => h _ _ (h2 _ _ ⟨[x], rfl, by unfold lim; omega, by omega, by show 1 * _ ≤ _; unfold lim; omega, by
  have : ∀ m : Nat, (List.replicate m [x]).flatten = List.replicate m x := fun m => by
    induction m with
    | zero => rfl
    | succ m ih => rw [List.replicate_succ, List.flatten_cons, List.replicate_succ, ih] <;> rfl
  show R (.lst (List.replicate ((k : Int).toNat) [x]).flatten) μ
  rw [Int.toNat_natCast, this]
  exact z⟩)
theorem evP_rangeN {n : Nat} (h : ev Φ a ρ μ (.int n)) (hn : n ≤ 1000) : evP Φ (.range1 a) ρ μ ((List.range n).map natD) := by
  have := evP_range1 (Φ := Φ) h (by unfold lim; omega) (by unfold lim; omega)
  rw [Int.toNat_natCast] at this
  exact this
theorem mat_ev {ta tb : Nat} {n : Nat} {v : Nat → Nat → Bool} (hn : n ≤ 1000) (h1 : evP Φ it1 ρ μ ((List.range n).map natD)) (h2 : ∀ i, i < n → evP Φ it2 ((wipeD ρ [ta]).set ta (some (natD i))) μ ((List.range n).map natD))
    (h3 : ∀ i j, i < n → j < n → ev Φ el ((wipeD ((wipeD ρ [ta]).set ta (some (natD i))) [tb]).set tb (some (natD j))) μ (.bl (v i j))) : ev Φ (.lc false (.lc false el [tb] false it2 false .nl [tb]) [ta] false it1 false .nl [ta]) ρ μ (matD n v) := by
  have e1 := ev_lc (Φ := Φ) (μ := μ) (ρ := ρ) (c := .nl) (el := .lc false el [tb] false it2 false .nl [tb]) (it := it1) (tg := [ta]) (tp := false) (own := [ta]) (f := fun d => match d with
    | .int i => rowD n (v i.toNat)
    | _ => .non) h1.i (by rw [List.length_map, List.length_range]; unfold lim; omega) (fun d hd R q => by
      obtain ⟨i, hi, rfl⟩ := List.mem_map.mp hd
      have hi := List.mem_range.mp hi
      refine q _ ?_
      have e2 := ev_lc (Φ := Φ) (μ := μ) (ρ := (wipeD ρ [ta]).set ta (some (natD i))) (c := .nl) (el := el) (it := it2) (tg := [tb]) (tp := false) (own := [tb]) (f := fun d => match d with
        | .int j => .bl (v i j.toNat)
        | _ => .non) (h2 i hi).i (by rw [List.length_map, List.length_range]; unfold lim; omega) (fun d hd R q => by
          obtain ⟨j, hj, rfl⟩ := List.mem_map.mp hd
          exact q _ (h3 i j hi (List.mem_range.mp hj)))
      rw [List.map_map] at e2
      exact e2)
  rw [List.map_map] at e1
  exact e1
theorem first_ix {p : D → Bool} : ∀ {xs : List D}, xs.any p = true → ∃ (j : Nat) (z : D), xs[j]? = some z ∧ p z = true ∧ ∀ (k : Nat) z', k < j → xs[k]? = some z' → p z' = false
  | [], h => by cases h
  | x :: xs, h => by
    cases hx : p x with
    | true => exact ⟨0, x, rfl, hx, fun k _ hk => by omega⟩
    | false =>
      rw [List.any_cons, hx, Bool.false_or] at h
      obtain ⟨j, z, h1, h2, h3⟩ := first_ix h
      refine ⟨j + 1, z, by simpa using h1, h2, fun k z' hk e => ?_⟩
      cases k with
      | zero =>
        have : x = z' := by simpa using e
        rw [← this]
        exact hx
      | succ k => exact h3 k z' (by omega) (by simpa using e)
theorem flat_nats (ns : List Nat) : (ns.map natD).all flatD = true := by
  rw [List.all_map, List.all_eq_true]
  exact fun _ _ => rfl
theorem ev_index {ns : List Nat} {k : Nat} (h : ev Φ a ρ μ (.lst (ns.map natD))) (h2 : ev Φ b ρ μ (natD k)) (hin : inSeq (natD k) (ns.map natD) = true) : ∃ j, j < ns.length ∧ ev Φ (.meth a .index (.cs b .nl)) ρ μ (natD j) := by
  obtain ⟨j, z, e1, e2, e3⟩ := first_ix hin
  have hj : j < ns.length := by
    have := (List.getElem?_eq_some_iff.mp e1).1
    simpa using this
  exact ⟨j, hj, fun R X q => meth_sem (h _ _ ⟨rfl, one_sem (h2 _ _ ⟨ns.map natD, j, z, rfl, rfl, flat_nats ns, e1, e2, e3, q⟩)⟩)⟩
theorem evT_in {ns : List Nat} {k : Nat} (h : ev Φ a ρ μ (natD k)) (h2 : ev Φ b ρ μ (.lst (ns.map natD))) : evT Φ (.cmp .isin a b) ρ μ (inSeq (natD k) (ns.map natD)) := evT_cmp h h2 fun R z => .inl ⟨ns.map natD, rfl, rfl, flat_nats ns, z⟩
end
theorem perm_nats {ds : List D} {n : Nat} (h : ds.Perm ((List.range n).map natD)) : ∃ ns : List Nat, ds = ns.map natD ∧ ns.length = n ∧ ∀ k, k ∈ ns → k < n := by
  have mem : ∀ d, d ∈ ds → ∃ k, k < n ∧ d = natD k := fun d hd => by
    obtain ⟨k, hk, rfl⟩ := List.mem_map.mp (h.mem_iff.mp hd)
    exact ⟨k, List.mem_range.mp hk, rfl⟩
  refine ⟨ds.map fun d => match d with
    | .int i => i.toNat
    | _ => 0, ?_, by rw [List.length_map, h.length_eq, List.length_map, List.length_range], fun k hk => ?_⟩
  · rw [List.map_map]
    conv => lhs; rw [← List.map_id ds]
    apply List.map_congr_left
    intro d hd
    obtain ⟨k, _, rfl⟩ := mem d hd
    rfl
  · obtain ⟨d, hd, rfl⟩ := List.mem_map.mp hk
    obtain ⟨k', hk', rfl⟩ := mem d hd
    exact hk'
mutual
def cE : IE → Option D
  | .int n => some (.int n)
  | .bl n => some (.bl n)
  | .str n => some (.str n)
  | .non => some .non
  | .tup es => (cA es).map .tup
  | .lst false es => (cA es).map .lst
  | _ => none
def cA : IE → Option (List D)
  | .nl => some []
  | .cs a b => match cE a, cA b with
    | some d, some ds => some (d :: ds)
    | _, _ => none
  | _ => none
end
theorem const_ok {Φ : Md} {ρ : Rho} {μ : Mu} : ∀ e : IE, (∀ d, cE e = some d → ev Φ e ρ μ d) ∧ (∀ ds, cA e = some ds → evA Φ e ρ μ ds) := by
  intro e
  induction e with
  | int n => exact ⟨(fun d h => by cases h; exact ev_int), (fun ds h => by cases h)⟩
  | bl n => exact ⟨(fun d h => by cases h; exact ev_bl), (fun ds h => by cases h)⟩
  | str n => exact ⟨(fun d h => by cases h; exact ev_str), (fun ds h => by cases h)⟩
  | non => exact ⟨(fun d h => by cases h; exact ev_non), (fun ds h => by cases h)⟩
  | tup es ih =>
    refine ⟨fun d h => ?_, (fun ds h => by cases h)⟩
    have h : (cA es).map D.tup = some d := h
    cases e : cA es with
    | none => rw [e] at h; cases h
    | some ds => rw [e] at h; cases h; exact ev_tup (ih.2 ds e)
  | lst m es ih =>
    cases m with
    | true => exact ⟨(fun d h => by cases h), (fun ds h => by cases h)⟩
    | false =>
      refine ⟨fun d h => ?_, (fun ds h => by cases h)⟩
      have h : (cA es).map D.lst = some d := h
      cases e : cA es with
      | none => rw [e] at h; cases h
      | some ds => rw [e] at h; cases h; exact ev_lst (ih.2 ds e)
  | nl => exact ⟨(fun d h => by cases h), (fun ds h => by cases h; exact evA_nl)⟩
  | cs a b iha ihb =>
    refine ⟨(fun d h => by cases h), fun ds h => ?_⟩
    have h : (match cE a, cA b with
      | some d, some ds => some (d :: ds)
      | _, _ => none) = some ds := h
    cases e1 : cE a with
    | none => rw [e1] at h; cases h
    | some d =>
      cases e2 : cA b with
      | none => rw [e1, e2] at h; cases h
      | some es => rw [e1, e2] at h; cases h; exact evA_cs (iha.1 d e1) (ihb.2 es e2)
  | _ => exact ⟨(fun d h => by cases h), (fun ds h => by cases h)⟩
theorem ev_const {Φ : Md} {ρ : Rho} {μ : Mu} {e : IE} {d : D} (h : cE e = some d) : ev Φ e ρ μ d := (const_ok e).1 d h
theorem ite_sem {Φ : Md} {ρ : Rho} {μ : Mu} {a b c : IE} {R : RD} {X : RX} (h : semT Φ c ρ μ (fun k μ1 => match k with
      | true => semE Φ a ρ μ1 R X
      | false => semE Φ b ρ μ1 R X) X) : semE Φ (.ite c a b) ρ μ R X := h
theorem bi_sem {Φ : Md} {ρ : Rho} {μ : Mu} {o : Bi} {m : Bool} {a : IE} {R : RD} {X : RX} (h : semA Φ a ρ μ (fun ds μ1 => opBi o m ds μ1 R) X) : semE Φ (.bi o m a) ρ μ R X := h
theorem range_sem {Φ : Md} {ρ : Rho} {μ : Mu} {a : IE} {R : RI} {X : RX} (h : semE Φ a ρ μ (fun x μ1 => ∃ j : Int, x = .int j ∧ j ≤ lim ∧ -lim ≤ j ∧ R ((List.range j.toNat).map fun i => D.int (i : Nat)) (fun _ => True) μ1) X) : semI Φ (.range1 a) ρ μ R X := h
end PL
/-! B5: put in, named, known, nested -/
namespace PL
open PySem PySem.Spec PyProof.Rows L2 PySem.W

def sp_put_in : DSp := sp3 fun x y z μ R X => ∃ (n m c : Nat) (t u : Nat → Nat → Bool), x = matD n t ∧ y = .int c ∧ z = matD m u ∧ c < n ∧ 1 ≤ m ∧ n + m ≤ 500 ∧ ∀ v, R (matD (n + m - 1) v) μ
theorem m_put_in {Φ : Md} : ∀ x y z μ R X, (∃ (n m c : Nat) (t u : Nat → Nat → Bool), x = matD n t ∧ y = .int c ∧ z = matD m u ∧ c < n ∧ 1 ≤ m ∧ n + m ≤ 500 ∧ ∀ v, R (matD (n + m - 1) v) μ) → semS Φ i__law_put_in (startD 10 [x, y, z]) μ (dEnd R X) := by
  rintro _ _ _ μ R X ⟨n, m, c, t, u, rfl, rfl, rfl, hc, hm, hnm, q⟩
  have lent : ∀ (k : Nat) (t : Nat → Nat → Bool) (ρ : Rho) (i : Nat) (μ : Mu), ρ[i]? = some (some (matD k t)) → ev Φ (.bi .len false (.cs (.var i) .nl)) ρ μ (.int (k : Nat)) := fun k t ρ i μ h => by
    have := ev_len (m := false) (ev_var (Φ := Φ) (μ := μ) h) rfl
    rw [List.length_map, List.length_range] at this
    exact this
  refine asg_ev (lent n t _ 0 μ rfl) ?_
  refine asg_ev (d := .lst ((List.range n ++ List.replicate (m - 1) c).map natD)) ?_ ?_
  · have := ev_addL (Φ := Φ) (ρ := [some (matD n t), some (.int c), some (matD m u), some (.int n), none, none, none, none, none, none]) (μ := μ) (a := .rng1 false (.var 3)) (b := .bin .mul false (.lst false (.cs (.var 1) .nl)) (.bin .sub false (.bi .len false (.cs (.var 2) .nl)) (.int 1)))
      (ev_rng1 (ev_var (i := 3) (d := .int n) rfl) (by unfold lim; omega) (by unfold lim; omega)) (ev_mulL (x := natD c) (k := m - 1) (ev_lst (evA_cs (ev_var rfl) evA_nl)) (by have := ev_sub (m := false) (lent m u [some (matD n t), some (.int c), some (matD m u), some (.int n), none, none, none, none, none, none] 2 μ rfl) (ev_int (n := 1)); rw [show ((m : Int) - 1) = ((m - 1 : Nat) : Int) by omega] at this; exact this) (by omega)) (by rw [List.length_map, List.length_range, List.length_replicate]; unfold lim; omega)
    rw [Int.toNat_natCast] at this
    rw [List.map_append, List.map_replicate]
    exact this
  generalize hou : List.range n ++ List.replicate (m - 1) c = ou
  have oul : ou.length = n + m - 1 := by rw [← hou, List.length_append, List.length_range, List.length_replicate]; omega
  have oub : ∀ k, k ∈ ou → k < n := fun k hk => by
    rw [← hou] at hk
    rcases List.mem_append.mp hk with hk | hk
    · exact List.mem_range.mp hk
    · rw [(List.mem_replicate.mp hk).2]; exact hc
  refine asg_ev (d := .lst ((c :: (List.range (m - 1)).map fun k => n + k).map natD)) ?_ ?_
  · have := ev_addL (Φ := Φ) (ρ := [some (matD n t), some (.int c), some (matD m u), some (.int n), some (.lst (ou.map natD)), none, none, none, none, none]) (μ := μ) (a := .lst false (.cs (.var 1) .nl)) (b := .rng2 false (.var 3) (.bin .sub false (.bin .add false (.var 3) (.bi .len false (.cs (.var 2) .nl))) (.int 1)))
      (ev_lst (evA_cs (ev_var (i := 1) (d := .int c) rfl) evA_nl)) (ev_rng2 (ev_var (i := 3) (d := .int n) rfl) (ev_sub (ev_add (ev_var (i := 3) (d := .int n) rfl) (lent m u _ 2 μ rfl)) ev_int) (by unfold lim; omega) (by unfold lim; omega) (by unfold lim; omega) (by unfold lim; omega)) (by rw [List.length_map, List.length_range]; show 1 + _ ≤ _; unfold lim; omega)
    have e : ((n : Int) + (m : Nat) - 1 - (n : Nat)).toNat = m - 1 := by omega
    rw [e] at this
    rw [List.map_cons, List.map_map]
    exact this
  generalize hna : (c :: (List.range (m - 1)).map fun k => n + k) = na
  have nal : na.length = m := by rw [← hna, List.length_cons, List.length_map, List.length_range]; omega
  have lo : ∀ (ρ : Rho) (i : Nat) (μ : Mu), ρ[i]? = some (some (.lst (ou.map natD))) → ev Φ (.bi .len false (.cs (.var i) .nl)) ρ μ (.int ((n + m - 1 : Nat) : Int)) := fun ρ i μ h => by
    have := ev_len (m := false) (ev_var (Φ := Φ) (μ := μ) h) rfl
    rw [List.length_map, oul] at this
    exact this
  refine asg_sem (grid_sem (n := n + m - 1) (evP_var (i := 4) (x := .lst (ou.map natD)) rfl rfl) (by rw [List.length_map, oul]) (by omega) (fun d μ' => lo _ 4 _ rfl) fun as μ1 g => ?_)
  generalize hN : n + m - 1 = N at *
  refine for_evP (evP_rangeN (lo _ 4 _ rfl) (by omega)) ?_
  refine forT_by (fun i ρ1 μ2 => ∃ rows o p, ρ1 = [some (matD n t), some (.int c), some (matD m u), some (.int n), some (.lst (ou.map natD)), some (.lst (na.map natD)), some (.lst (as.map D.ref)), none, o, p] ∧ Grid μ μ2 as N rows) ⟨_, none, none, rfl, g⟩ (fun _ _ _ _ _ => trivial) (fun i d ρ1 μ2 K hd h k => ?_) (fun ρ1 μ2 h => ?_)
  · obtain ⟨rows, o, p, rfl, g2⟩ := h
    have hi : i < N := by
      have := (List.getElem?_eq_some_iff.mp hd).1
      simpa using this
    rw [range_at hi] at hd
    cases hd
    show semS Φ (.sq _ .nop) [some (matD n t), some (.int c), some (matD m u), some (.int n), some (.lst (ou.map natD)), some (.lst (na.map natD)), some (.lst (as.map D.ref)), none, some (natD i), p] μ2 _
    refine for_evP (evP_rangeN (lo _ 4 _ rfl) (by omega)) ?_
    refine forT_by (fun j ρ1 μ2 => ∃ rows p, ρ1 = [some (matD n t), some (.int c), some (matD m u), some (.int n), some (.lst (ou.map natD)), some (.lst (na.map natD)), some (.lst (as.map D.ref)), none, some (natD i), p] ∧ Grid μ μ2 as N rows) ⟨_, _, rfl, g2⟩ (fun _ _ _ _ _ => trivial) (fun j d ρ1 μ3 K' hd h k' => ?_) (fun ρ1 μ3 h => ?_)
    · obtain ⟨rows, p, rfl, g3⟩ := h
      have hj : j < N := by
        have := (List.getElem?_eq_some_iff.mp hd).1
        simpa using this
      rw [range_at hj] at hd
      cases hd
      show semS Φ (.sq _ .nop) [some (matD n t), some (.int c), some (matD m u), some (.int n), some (.lst (ou.map natD)), some (.lst (na.map natD)), some (.lst (as.map D.ref)), none, some (natD i), some (natD j)] μ3 _
      refine if_ev (evT_and (evT_in (k := i) (ns := na) (ev_var rfl) (ev_var rfl)) fun _ => evT_in (k := j) (ns := na) (ev_var rfl) (ev_var rfl)) (fun z => ?_) (fun z => ?_)
      · rw [Bool.and_eq_true] at z
        obtain ⟨i', hi', ei⟩ := ev_index (Φ := Φ) (μ := μ3) (ρ := [some (matD n t), some (.int c), some (matD m u), some (.int n), some (.lst (ou.map natD)), some (.lst (na.map natD)), some (.lst (as.map D.ref)), none, some (natD i), some (natD j)]) (a := .var 5) (b := .var 8) (ev_var rfl) (ev_var rfl) z.1
        obtain ⟨j', hj', ej⟩ := ev_index (Φ := Φ) (μ := μ3) (ρ := [some (matD n t), some (.int c), some (matD m u), some (.int n), some (.lst (ou.map natD)), some (.lst (na.map natD)), some (.lst (as.map D.ref)), none, some (natD i), some (natD j)]) (a := .var 5) (b := .var 9) (ev_var rfl) (ev_var rfl) z.2
        refine asgG (ev_idxN (n := j') (x := rowD m (u i')) (ev_idxN (n := i') (ev_var (d := matD m u) rfl) ei rfl rfl (range_at (by omega))) ej rfl rfl (range_at (by omega))) (g3.put (i := i) (j := j) (ev_var rfl) (ev_var rfl) (ev_var rfl) rfl hi hj (by omega) fun μ4 g4 => ?_)
        exact k' _ _ ⟨_, _, rfl, g4⟩
      · refine if_ev (evT_cmp (o := .ne) (ev_var (i := 8) (d := natD i) rfl) (ev_var (i := 9) (d := natD j) rfl) fun R z => cmp_ne z) (fun _ => ?_) (fun _ => ?_)
        · have hoi : ou.getD i 0 < n := oub _ (by rw [List.getD_eq_getElem?_getD, List.getElem?_eq_getElem (by omega)]; exact List.getElem_mem _)
          have hoj : ou.getD j 0 < n := oub _ (by rw [List.getD_eq_getElem?_getD, List.getElem?_eq_getElem (by omega)]; exact List.getElem_mem _)
          refine asgG (ev_idxN (n := ou.getD j 0) (x := rowD n (t (ou.getD i 0))) (ev_idxN (n := ou.getD i 0) (ev_var (d := matD n t) rfl) (ev_idxN (n := i) (ev_var (d := .lst (ou.map natD)) rfl) (ev_var (d := natD i) rfl) rfl rfl (nats_at (by omega))) rfl rfl (range_at hoi)) (ev_idxN (n := j) (ev_var (d := .lst (ou.map natD)) rfl) (ev_var (d := natD j) rfl) rfl rfl (nats_at (by omega))) rfl rfl (range_at hoj)) (g3.put (i := i) (j := j) (ev_var rfl) (ev_var rfl) (ev_var rfl) rfl hi hj (by omega) fun μ4 g4 => ?_)
          exact k' _ _ ⟨_, _, rfl, g4⟩
        · exact k' _ _ ⟨_, _, rfl, g3⟩
    · obtain ⟨rows, p, rfl, g3⟩ := h
      exact k _ _ ⟨_, _, _, rfl, g3⟩
  · obtain ⟨rows, o, p, rfl, g2⟩ := h
    exact ret_sem (ev_var (i := 6) (d := .lst (as.map D.ref)) rfl _ _ (g2.ret (q _)))
def sp_named : DSp := sp2 fun x y μ R X => ∃ (h : Addr) (n : Nat) (t : Nat → Nat → Bool) (M : MO), x = .ref h ∧ y = matD n t ∧ n ≤ 1000 ∧ μ h = some M ∧ IsHand M ∧ ∀ v M', IsHand M' → R (matD n v) (μ.set h M')
theorem m_named {Φ : Md} (f : Φ.fns "_law_mixed" = some sp_mixed) : ∀ x y μ R X, (∃ (h : Addr) (n : Nat) (t : Nat → Nat → Bool) (M : MO), x = .ref h ∧ y = matD n t ∧ n ≤ 1000 ∧ μ h = some M ∧ IsHand M ∧ ∀ v M', IsHand M' → R (matD n v) (μ.set h M')) → semS Φ i__law_named (startD 5 [x, y]) μ (dEnd R X) := by
  rintro _ _ μ R X ⟨h, n, t, M, rfl, rfl, hn, e, hM, q⟩
  have lent : ∀ (ρ : Rho) (μ : Mu), ρ[1]? = some (some (matD n t)) → ev Φ (.bi .len false (.cs (.var 1) .nl)) ρ μ (.int (n : Nat)) := fun ρ μ h => by
    have := ev_len (m := false) (ev_var (Φ := Φ) (μ := μ) h) rfl
    rw [List.length_map, List.length_range] at this
    exact this
  refine asg_sem (call_sem f (evA_cs (ev_var (d := .ref h) rfl) (evA_cs (ev_rng1 (lent _ _ rfl) (by unfold lim; omega) (by unfold lim; omega)) evA_nl) _ _ ⟨h, _, M, rfl, rfl, by rw [List.length_map, List.length_range]; omega, e, hM, fun ds' M' pm hM' => ?_⟩))
  rw [Int.toNat_natCast] at pm
  obtain ⟨ns, rfl, nl, nb⟩ := perm_nats pm
  have mem : ∀ k, k < n → ns.getD k 0 < n := fun k hk => nb _ (by rw [List.getD_eq_getElem?_getD, List.getElem?_eq_getElem (by omega)]; exact List.getElem_mem _)
  refine ret_ev (mat_ev (n := n) (v := fun i j => t (ns.getD i 0) (ns.getD j 0)) hn (evP_rangeN (lent _ _ rfl) hn) (fun i hi => evP_rangeN (lent _ _ rfl) hn) (fun i j hi hj => ?_)) (q _ M' hM')
  exact ev_idxN (n := ns.getD j 0) (x := rowD n (t (ns.getD i 0))) (ev_idxN (n := ns.getD i 0) (ev_var (d := matD n t) rfl) (ev_idxN (n := i) (ev_var (d := .lst (ns.map natD)) rfl) (ev_var (d := natD i) rfl) rfl rfl (nats_at (by omega))) rfl rfl (range_at (mem i hi))) (ev_idxN (n := j) (ev_var (d := .lst (ns.map natD)) rfl) (ev_var (d := natD j) rfl) rfl rfl (nats_at (by omega))) rfl rfl (range_at (mem j hj))
def kn : List (List (Nat × Nat)) := [[(0, 1), (1, 2), (2, 3)], [(0, 1), (1, 2), (2, 3), (3, 4), (0, 4)], [(0, 1), (1, 2), (0, 2), (0, 3), (1, 4)], [(0, 1), (1, 2), (2, 3), (3, 4), (4, 5), (0, 5)], [(0, 1), (1, 2), (2, 3), (3, 4), (4, 5)]]
theorem kn_ok : ∀ tl, tl ∈ kn → 0 < tl.length ∧ tl.length ≤ 6 ∧ ∀ p, p ∈ tl → p.1 < p.2 ∧ p.2 ≤ 5 := by decide
theorem pair_it (p : Nat × Nat) : isIT (pairD p) ∧ intsOf (pairD p) ≠ [] := ⟨isIT_tupI [(p.1 : Int), (p.2 : Int)], by intro z; cases z⟩
theorem unpair {ds : List D} {P : Nat × Nat → Prop} (h : ∀ d, d ∈ ds → ∃ p, P p ∧ d = pairD p) : ∃ tl : List (Nat × Nat), ds = tl.map pairD ∧ ∀ p, p ∈ tl → P p := by
  induction ds with
  | nil => exact ⟨[], rfl, fun p hp => by cases hp⟩
  | cons d ds ih =>
    obtain ⟨p, hp, rfl⟩ := h d List.mem_cons_self
    obtain ⟨tl, rfl, ht⟩ := ih fun d hd => h d (List.mem_cons_of_mem _ hd)
    exact ⟨p :: tl, rfl, fun q hq => by
      rcases List.mem_cons.mp hq with rfl | hq
      · exact hp
      · exact ht q hq⟩
def sp_known : DSp := sp1 fun x μ R X => ∃ (h : Addr) (M : MO), x = .ref h ∧ μ h = some M ∧ IsHand M ∧ ∀ n t M', 1 ≤ n → n ≤ 6 → IsHand M' → R (matD n t) (μ.set h M')
theorem m_known {Φ : Md} (f1 : Φ.fns "_law_some" = some sp_some) (f2 : Φ.fns "_law_table" = some sp_table) : ∀ x μ R X, (∃ (h : Addr) (M : MO), x = .ref h ∧ μ h = some M ∧ IsHand M ∧ ∀ n t M', 1 ≤ n → n ≤ 6 → IsHand M' → R (matD n t) (μ.set h M')) → semS Φ i__law_known (startD 5 [x]) μ (dEnd R X) := by
  rintro _ μ R X ⟨h, M, rfl, e, hM, q⟩
  refine asg_ev (ev_const (d := .lst ((kn.take 3).map fun tl => .lst (tl.map pairD))) rfl) ?_
  refine asg_ev (d := .lst (kn.map fun tl => .lst (tl.map pairD))) (ev_addL (ev_var (d := .lst ((kn.take 3).map fun tl => .lst (tl.map pairD))) rfl) (ev_const (d := .lst ((kn.drop 3).map fun tl => .lst (tl.map pairD))) rfl) (by decide)) ?_
  refine asg_sem (call_sem f1 (evA_cs (ev_var (d := .ref h) rfl) (evA_cs (ev_var (d := .lst (kn.map fun tl => .lst (tl.map pairD))) rfl) evA_nl) _ _ ⟨h, _, M, rfl, rfl, by decide, by decide, e, hM, fun d M' hd hM' => ?_⟩))
  obtain ⟨tl, htl, rfl⟩ := List.mem_map.mp hd
  obtain ⟨k1, k2, k3⟩ := kn_ok tl htl
  have lc : ev Φ (.lc false (.idx (.var 4) (.int 1)) [4] false (.var 2) false .nl [4]) [some (.ref h), some (.lst (kn.map fun tl => .lst (tl.map pairD))), some (.lst (tl.map pairD)), none, none] (μ.set h M') (.lst ((tl.map fun p => (p.2 : Int)).map .int)) := by
    have := ev_lc (Φ := Φ) (μ := μ.set h M') (ρ := [some (.ref h), some (.lst (kn.map fun tl => .lst (tl.map pairD))), some (.lst (tl.map pairD)), none, none]) (c := .nl) (el := .idx (.var 4) (.int 1)) (it := .var 2) (tg := [4]) (tp := false) (own := [4]) (f := fun d => match d with
      | .tup [_, y] => y
      | _ => .non) (evP_var rfl rfl).i (by rw [List.length_map]; unfold lim; omega) (fun d hd R q => by
        obtain ⟨p, _, rfl⟩ := List.mem_map.mp hd
        exact q _ (ev_idx (ev_var (d := pairD p) rfl) ev_int rfl rfl))
    rw [List.map_map] at this
    rw [List.map_map]
    exact this
  refine asg_sem (bin_sem (ev_int _ _ (bi_sem (one_sem (lc _ _ ⟨_, rfl, by rw [List.length_map]; exact k1, fun k hk hmax => ?_⟩)))))
  obtain ⟨p0, hp0, rfl⟩ := List.mem_map.mp hk
  have hp5 := (k3 p0 hp0).2
  have e1 : ev Φ (.bi .tuple false (.cs (.bi .sorted false (.cs (.var 2) .nl)) .nl)) [some (.ref h), some (.lst (kn.map fun tl => .lst (tl.map pairD))), some (.lst (tl.map pairD)), some (.int (1 + (p0.2 : Nat))), none] (μ.set h M') (.tup ((tl.map pairD).mergeSort (dataLe false encD))) :=
    ev_bi (evA_cs (ev_bi (d := .lst ((tl.map pairD).mergeSort (dataLe false encD))) (evA_cs (ev_var (d := .lst (tl.map pairD)) rfl) evA_nl) fun R z => sorted_its rfl (fun l hl => by
      obtain ⟨p, _, rfl⟩ := List.mem_map.mp hl
      exact pair_it p) (by rw [List.length_map]; unfold lim; omega) z) evA_nl) fun R z => ⟨_, rfl, z⟩
  obtain ⟨tl', et, ht⟩ := unpair (P := fun p => p.1 < p0.2 + 1 ∧ p.2 < p0.2 + 1) (ds := (tl.map pairD).mergeSort (dataLe false encD)) fun d hd => by
    obtain ⟨p, hp, rfl⟩ := List.mem_map.mp (mem_sorted.mp hd)
    have h1 := k3 p hp
    have h2 := hmax _ (List.mem_map.mpr ⟨p, hp, rfl⟩)
    exact ⟨p, ⟨by omega, by omega⟩, rfl⟩
  rw [et] at e1
  have en : (1 + (p0.2 : Nat) : Int) = ((p0.2 + 1 : Nat) : Int) := by omega
  refine ret_sem (call_sem f2 (evA_cs (ev_tup (evA_cs (ev_var (i := 3) rfl) (evA_cs e1 evA_nl))) evA_nl _ _ ⟨p0.2 + 1, tl', by rw [en] <;> rfl, ht, by omega, fun t _ => ⟨fun _ => true, 0, q _ t M' (by omega) (by omega) hM'⟩⟩))
def sp_nested : DSp := sp2 fun x y μ R X => ∃ (h : Addr) (m : Nat) (M : MO), x = .ref h ∧ y = .int m ∧ 1 ≤ m ∧ m ≤ 100 ∧ μ h = some M ∧ IsHand M ∧ ∀ n t M', 1 ≤ n → n ≤ m → IsHand M' → R (matD n t) (μ.set h M')
theorem m_nested {Φ : Md} (f1 : Φ.fns "_law_draw" = some sp_draw) (f2 : Φ.fns "_law_random" = some sp_random) (f3 : Φ.fns "_law_known" = some sp_known) (f4 : Φ.fns "_law_put_in" = some sp_put_in) (f5 : Φ.fns "_law_named" = some sp_named) : ∀ x y μ R X, (∃ (h : Addr) (m : Nat) (M : MO), x = .ref h ∧ y = .int m ∧ 1 ≤ m ∧ m ≤ 100 ∧ μ h = some M ∧ IsHand M ∧ ∀ n t M', 1 ≤ n → n ≤ m → IsHand M' → R (matD n t) (μ.set h M')) → semS Φ i__law_nested (startD 5 [x, y]) μ (dEnd R X) := by
  rintro _ _ μ R X ⟨h, m, M, rfl, rfl, hm, hm2, e, hM, q⟩
  have lent : ∀ (k : Nat) (t : Nat → Nat → Bool) (ρ : Rho) (i : Nat) (μ : Mu), ρ[i]? = some (some (matD k t)) → ev Φ (.bi .len false (.cs (.var i) .nl)) ρ μ (.int (k : Nat)) := fun k t ρ i μ h => by
    have := ev_len (m := false) (ev_var (Φ := Φ) (μ := μ) h) rfl
    rw [List.length_map, List.length_range] at this
    exact this
  obtain ⟨w, hw1, hw2, hw3⟩ : ∃ w : Nat, (if (m : Int) < 3 then (m : Int) else 3) = (w : Int) ∧ 0 < w ∧ w ≤ m := by
    by_cases c : (m : Int) < 3
    · exact ⟨m, by rw [if_pos c], by omega, by omega⟩
    · exact ⟨3, by rw [if_neg c] <;> rfl, by omega, by omega⟩
  refine asg_sem (call_sem f2 (cs_sem (ev_var (d := .ref h) rfl _ _ (one_sem (bin_sem (ev_int _ _ (draw_sem (m := w) f1 (ev_var rfl) (ev_bi (evA_cs ev_int (evA_cs (ev_var (d := .int m) rfl) evA_nl)) fun R z => by
    show R (.int (if (m : Int) < 3 then (m : Int) else 3)) _
    rw [hw1]
    exact z) hw2 (by omega) e hM fun k0 M1 hk0 hM1 => ?_)))))))
  refine ⟨h, 1 + k0, M1, rfl, by show D.int (1 + (k0 : Nat)) = .int ((1 + k0 : Nat) : Int); rw [show (1 + (k0 : Nat) : Int) = ((1 + k0 : Nat) : Int) by omega], by omega, Mu.set_same, hM1, fun t0 M2 hM2 => ?_⟩
  rw [Mu.set_set]
  refine for_sem (range_sem (draw_sem (m := 5) f1 (ev_var rfl) ev_int (by omega) (by omega) Mu.set_same hM2 fun k1 M3 _ hM3 => ⟨(k1 : Int), rfl, by unfold lim; omega, by unfold lim; omega, ?_⟩))
  rw [Mu.set_set]
  refine forT_by (fun i ρ1 μ1 => ∃ n t o p M', ρ1 = [some (.ref h), some (.int m), some (matD n t), o, p] ∧ 1 ≤ n ∧ n ≤ m ∧ IsHand M' ∧ μ1 = μ.set h M') ⟨1 + k0, t0, none, none, M3, rfl, by omega, by omega, hM3, rfl⟩ (fun _ _ _ _ _ => trivial) (fun i d ρ1 μ1 N hd hh k => ?_) (fun ρ1 μ1 hh => ?_)
  · obtain ⟨n, t, o, p, M4, rfl, hn1, hn2, hM4, rfl⟩ := hh
    show semS Φ (.sq _ (.sq _ .nop)) [some (.ref h), some (.int m), some (matD n t), some d, p] (μ.set h M4) _
    have inner : ∀ (n' : Nat) (u : Nat → Nat → Bool) (M5 : MO), 1 ≤ n' → n' ≤ 6 → IsHand M5 → semS Φ (.sq (.ite (.cmp .le (.bin .sub false (.bin .add false (.bi .len false (.cs (.var 2) .nl)) (.bi .len false (.cs (.var 4) .nl))) (.int 1)) (.var 1)) (.sq (.asg (.nm 2) (.call "_law_put_in" (.cs (.var 2) (.cs (.call "_law_draw" (.cs (.var 0) (.cs (.bi .len false (.cs (.var 2) .nl)) .nl))) (.cs (.var 4) .nl))))) .nop) .nop) .nop)
        [some (.ref h), some (.int m), some (matD n t), some d, some (matD n' u)] (μ.set h M5) { { dEnd R X with nx := fun ρ1 μ1 => semS Φ (.sq (.ret (.call "_law_named" (.cs (.var 0) (.cs (.var 2) .nl)))) .nop) ρ1 μ1 (dEnd R X) } with nx := N, ct := N, bk := fun ρ1 μ1 => semS Φ (.sq (.ret (.call "_law_named" (.cs (.var 0) (.cs (.var 2) .nl)))) .nop) ρ1 μ1 (dEnd R X) } := fun n' u M5 h1 h2 hM5 => by
      refine if_ev (evT_cmp (o := .le) (ev_sub (ev_add (lent n t _ 2 _ rfl) (lent n' u _ 4 _ rfl)) ev_int) (ev_var (i := 1) (d := .int m) rfl) fun R z => z) (fun z => ?_) (fun _ => ?_)
      · have z := of_decide_eq_true z
        refine asg_sem (call_sem f4 (cs_sem (ev_var (d := matD n t) rfl _ _ (cs_sem (draw_sem (m := n) f1 (ev_var rfl) (lent n t _ 2 _ rfl) (by omega) (by omega) Mu.set_same hM5 fun k6 M6 hk6 hM6 => ?_)))))
        refine evA_cs (ev_var (i := 4) (d := matD n' u) rfl) evA_nl _ _ ⟨n, n', k6, t, u, rfl, rfl, rfl, hk6, h1, by omega, fun v => ?_⟩
        exact k _ _ ⟨n + n' - 1, v, _, _, M6, rfl, by omega, by omega, hM6, Mu.set_set⟩
      · exact k _ _ ⟨n, t, _, _, M5, rfl, hn1, hn2, hM5, rfl⟩
    refine asg_sem (ite_sem (cmpT_sem (draw_sem (m := 3) f1 (ev_var rfl) ev_int (by omega) (by omega) Mu.set_same hM4 fun k2 M5 _ hM5 => ?_)))
    rw [Mu.set_set]
    refine ev_int _ _ ?_
    show (match decide ((k2 : Int) = 0) with | true => _ | false => _)
    cases decide ((k2 : Int) = 0) with
    | true =>
      refine call_sem f3 (evA_cs (ev_var (d := .ref h) rfl) evA_nl _ _ ⟨h, M5, rfl, Mu.set_same, hM5, fun n' u M6 h1 h2 hM6 => ?_⟩)
      rw [Mu.set_set]
      exact inner n' u M6 h1 h2 hM6
    | false =>
      refine call_sem f2 (cs_sem (ev_var (d := .ref h) rfl _ _ (one_sem (bin_sem (ev_int _ _ (draw_sem (m := 2) f1 (ev_var rfl) ev_int (by omega) (by omega) Mu.set_same hM5 fun k3 M6 hk3 hM6 => ?_))))))
      refine ⟨h, 2 + k3, M6, rfl, by show D.int (2 + (k3 : Nat)) = .int ((2 + k3 : Nat) : Int); rw [show (2 + (k3 : Nat) : Int) = ((2 + k3 : Nat) : Int) by omega], by omega, Mu.set_same, hM6, fun u M7 hM7 => ?_⟩
      rw [Mu.set_set, Mu.set_set]
      exact inner (2 + k3) u M7 (by omega) (by omega) hM7
  · obtain ⟨n, t, o, p, M4, rfl, hn1, hn2, hM4, rfl⟩ := hh
    refine ret_sem (call_sem f5 (evA_cs (ev_var (d := .ref h) rfl) (evA_cs (ev_var (i := 2) (d := matD n t) rfl) evA_nl) _ _ ⟨h, n, t, M4, rfl, rfl, by omega, Mu.set_same, hM4, fun v M5 hM5 => ⟨fun _ => true, 0, ?_⟩⟩))
    have := q n v M5 hn1 hn2 hM5
    rw [← Mu.set_set (m := M4)] at this
    exact this
end PL
/-! B6: orders closed -/
namespace PL
open PySem PySem.Spec PyProof.Rows L2 PySem.W

def StrictO (n : Nat) (t : Nat → Nat → Bool) : Prop := (∀ i, i < n → t i i = false) ∧ ∀ i j k, i < n → j < n → k < n → t i j = true → t j k = true → t i k = true
theorem StrictO.asym {n : Nat} {t : Nat → Nat → Bool} (h : StrictO n t) {i j : Nat} (hi : i < n) (hj : j < n) (e : t i j = true) : t j i = false := by
  cases q : t j i with
  | false => rfl
  | true =>
    have := h.2 i j i hi hj hi e q
    rw [h.1 i hi] at this
    cases this
theorem StrictO.of_lt {n : Nat} {t : Nat → Nat → Bool} {f : Nat → Nat} (h : ∀ i j k, i < n → j < n → k < n → t i j = true → t j k = true → t i k = true) (k : ∀ i j, i < n → j < n → t i j = true → f i < f j) : StrictO n t := ⟨fun i hi => by
  cases q : t i i with
  | false => rfl
  | true =>
    have := k i i hi hi q
    omega, h⟩
/-- t' holds t and goes on; it lies in all that hold t and go on -/
def ClosedOf (n : Nat) (t t' : Nat → Nat → Bool) : Prop := (∀ i j k, i < n → j < n → k < n → t' i j = true → t' j k = true → t' i k = true) ∧ (∀ i j, i < n → j < n → t i j = true → t' i j = true) ∧
  ∀ s : Nat → Nat → Prop, (∀ i j k, i < n → j < n → k < n → s i j → s j k → s i k) → (∀ i j, i < n → j < n → t i j = true → s i j) → ∀ i j, i < n → j < n → t' i j = true → s i j
/-- .. through corners below m -/
def CI (n : Nat) (t : Nat → Nat → Bool) (m : Nat) (t' : Nat → Nat → Bool) : Prop := (∀ i j k, i < n → j < n → k < m → t' i k = true → t' k j = true → t' i j = true) ∧ (∀ i j, i < n → j < n → t i j = true → t' i j = true) ∧
  ∀ s : Nat → Nat → Prop, (∀ i j k, i < n → j < n → k < n → s i j → s j k → s i k) → (∀ i j, i < n → j < n → t i j = true → s i j) → ∀ i j, i < n → j < n → t' i j = true → s i j
theorem CI.step {n m : Nat} {t T T' : Nat → Nat → Bool} (hm : m < n) (h : CI n t m T) (e : ∀ x y, x < n → y < n → T' x y = (T x y || (T x m && T m y))) : CI n t (m + 1) T' := by
  have e' : ∀ x y, x < n → y < n → (T' x y = true ↔ T x y = true ∨ (T x m = true ∧ T m y = true)) := fun x y hx hy => by
    rw [e x y hx hy, Bool.or_eq_true, Bool.and_eq_true]
  have gm : ∀ x, x < n → T' x m = true → T x m = true := fun x hx q => by
    rcases (e' x m hx hm).mp q with q | q
    · exact q
    · exact q.1
  have mg : ∀ x, x < n → T' m x = true → T m x = true := fun x hx q => by
    rcases (e' m x hm hx).mp q with q | q
    · exact q
    · exact q.2
  refine ⟨fun i j k hi hj hk p q => ?_, fun i j hi hj p => (e' i j hi hj).mpr (.inl (h.2.1 i j hi hj p)), fun s hs hts i j hi hj p => ?_⟩
  · rcases Nat.lt_succ_iff_lt_or_eq.mp hk with hk | rfl
    · have hk2 : k < n := by omega
      rcases (e' i k hi hk2).mp p with p | ⟨p1, p2⟩
      · rcases (e' k j hk2 hj).mp q with q | ⟨q1, q2⟩
        · exact (e' i j hi hj).mpr (.inl (h.1 i j k hi hj hk p q))
        · exact (e' i j hi hj).mpr (.inr ⟨h.1 i m k hi hm hk p q1, q2⟩)
      · rcases (e' k j hk2 hj).mp q with q | ⟨q1, q2⟩
        · exact (e' i j hi hj).mpr (.inr ⟨p1, h.1 m j k hm hj hk p2 q⟩)
        · exact (e' i j hi hj).mpr (.inr ⟨p1, q2⟩)
    · exact (e' i j hi hj).mpr (.inr ⟨gm i hi p, mg j hj q⟩)
  · rcases (e' i j hi hj).mp p with p | ⟨p1, p2⟩
    · exact h.2.2 s hs hts i j hi hj p
    · exact hs i m j hi hm hj (h.2.2 s hs hts i m hi hm p1) (h.2.2 s hs hts m j hm hj p2)
def wP (T : Nat → Nat → Bool) (m i l x y : Nat) : Bool := T x y || ((decide (x < i) || (decide (x = i) && decide (y < l))) && (T x m && T m y))
theorem wP_col {T : Nat → Nat → Bool} {m i l x : Nat} : wP T m i l x m = T x m := by
  unfold wP
  cases T x m <;> simp
theorem wP_row {T : Nat → Nat → Bool} {m i l y : Nat} : wP T m i l m y = T m y := by
  unfold wP
  cases T m y <;> simp
def sp_closed : DSp := sp1 fun x μ R X => ∃ (μ0 : Mu) (as : List Addr) (n : Nat) (rows : List (List Bool)), x = .lst (as.map .ref) ∧ Grid μ0 μ as n rows ∧ n ≤ 1000 ∧ ∀ rows' μ', Grid μ0 μ' as n rows' → ClosedOf n (atB rows) (atB rows') → R (.lst (as.map .ref)) μ'
theorem m_closed {Φ : Md} : ∀ x μ R X, (∃ (μ0 : Mu) (as : List Addr) (n : Nat) (rows : List (List Bool)), x = .lst (as.map .ref) ∧ Grid μ0 μ as n rows ∧ n ≤ 1000 ∧ ∀ rows' μ', Grid μ0 μ' as n rows' → ClosedOf n (atB rows) (atB rows') → R (.lst (as.map .ref)) μ') → semS Φ i__law_closed (startD 5 [x]) μ (dEnd R X) := by
  rintro _ μ R X ⟨μ0, as, n, rows, rfl, g, hn, q⟩
  have al : as.length = n := by rw [g.c.len, List.length_map, g.l]
  have e0 : ev Φ (.bi .len false (.cs (.var 0) .nl)) (startD 5 [.lst (as.map .ref)]) μ (.int (n : Nat)) := by
    have := ev_len (m := false) (ev_var (Φ := Φ) (i := 0) (ρ := startD 5 [.lst (as.map .ref)]) (μ := μ) (d := .lst (as.map .ref)) rfl) rfl
    rw [List.length_map, al] at this
    exact this
  refine asg_ev e0 ?_
  refine for_evP (evP_rangeN (ev_var (i := 1) (d := .int n) rfl) hn) ?_
  have ci0 : CI n (atB rows) 0 (atB rows) := ⟨(fun _ _ k _ _ hk => by omega), (fun _ _ _ _ h => h), fun s _ h => h⟩
  generalize hr0 : atB rows = t0 at ci0 q
  have ci0' : CI n t0 0 (atB rows) := by rw [hr0]; exact ci0
  refine forT_by (fun i ρ1 μ1 => ∃ rows o p r, ρ1 = [some (.lst (as.map .ref)), some (.int n), o, p, r] ∧ Grid μ0 μ1 as n rows ∧ CI n t0 i (atB rows)) ⟨rows, none, none, none, rfl, g, ci0'⟩ (fun _ _ _ _ _ => trivial) (fun i d ρ1 μ1 N hd hh k => ?_) (fun ρ1 μ1 hh => ?_)
  · obtain ⟨rows, o, p, r, rfl, g, ci⟩ := hh
    have hi : i < n := by
      have := (List.getElem?_eq_some_iff.mp hd).1
      simpa using this
    rw [range_at hi] at hd
    cases hd
    show semS Φ (.sq _ .nop) [some (.lst (as.map .ref)), some (.int n), some (natD i), p, r] μ1 _
    refine for_evP (evP_rangeN (ev_var (i := 1) (d := .int n) rfl) hn) ?_
    generalize hT : atB rows = T at ci
    refine forT_by (fun j ρ1 μ1 => ∃ rows p r, ρ1 = [some (.lst (as.map .ref)), some (.int n), some (natD i), p, r] ∧ Grid μ0 μ1 as n rows ∧ ∀ x y, x < n → y < n → atB rows x y = wP T i j 0 x y) ⟨rows, p, r, rfl, g, fun x y _ _ => by rw [hT]; unfold wP; simp⟩ (fun _ _ _ _ _ => trivial) (fun j d ρ1 μ1 N hd hh k => ?_) (fun ρ1 μ1 hh => ?_)
    · obtain ⟨rows, p, r, rfl, g, w⟩ := hh
      have hj : j < n := by
        have := (List.getElem?_eq_some_iff.mp hd).1
        simpa using this
      rw [range_at hj] at hd
      cases hd
      show semS Φ (.sq _ .nop) [some (.lst (as.map .ref)), some (.int n), some (natD i), some (natD j), r] μ1 _
      refine if_ev (evT_idx (g.get (i := j) (j := i) (ev_var rfl) (ev_var rfl) (ev_var rfl) hj hi)) (fun z => ?_) (fun z => ?_)
      · rw [w j i hj hi, wP_col] at z
        refine for_evP (evP_rangeN (ev_var (i := 1) (d := .int n) rfl) hn) ?_
        refine forT_by (fun l ρ1 μ1 => ∃ rows r, ρ1 = [some (.lst (as.map .ref)), some (.int n), some (natD i), some (natD j), r] ∧ Grid μ0 μ1 as n rows ∧ ∀ x y, x < n → y < n → atB rows x y = wP T i j l x y) ⟨rows, r, rfl, g, w⟩ (fun _ _ _ _ _ => trivial) (fun l d ρ1 μ1 N hd hh k => ?_) (fun ρ1 μ1 hh => ?_)
        · obtain ⟨rows, r, rfl, g, w⟩ := hh
          have hl : l < n := by
            have := (List.getElem?_eq_some_iff.mp hd).1
            simpa using this
          rw [range_at hl] at hd
          cases hd
          show semS Φ (.sq _ .nop) [some (.lst (as.map .ref)), some (.int n), some (natD i), some (natD j), some (natD l)] μ1 _
          refine if_ev (evT_idx (g.get (i := i) (j := l) (ev_var rfl) (ev_var rfl) (ev_var rfl) hi hl)) (fun z2 => ?_) (fun z2 => ?_)
          · rw [w i l hi hl, wP_row] at z2
            refine asgG ev_bl (g.put (i := j) (j := l) (ev_var rfl) (ev_var rfl) (ev_var rfl) rfl hj hl hn fun μ4 g4 => k _ _ ⟨_, _, rfl, g4, fun x y hx hy => ?_⟩)
            rw [at_set g hj hl]
            split
            · rename_i q
              obtain ⟨rfl, rfl⟩ := q
              unfold wP
              rw [z, z2]
              simp
            · rename_i q
              rw [w x y hx hy]
              unfold wP
              have : (decide (x = j) && decide (y < l)) = (decide (x = j) && decide (y < l + 1)) := by
                rw [← Bool.decide_and, ← Bool.decide_and]
                exact decide_eq_decide.mpr (by omega)
              rw [this]
          · rw [w i l hi hl, wP_row] at z2
            refine k _ _ ⟨_, _, rfl, g, fun x y hx hy => ?_⟩
            rw [w x y hx hy]
            unfold wP
            by_cases q : y = l
            · subst q
              rw [z2]
              simp
            · have : decide (y < l) = decide (y < l + 1) := decide_eq_decide.mpr (by omega)
              rw [this]
        · obtain ⟨rows, r, rfl, g, w⟩ := hh
          rw [List.length_map, List.length_range] at w
          refine k _ _ ⟨_, _, _, rfl, g, fun x y hx hy => ?_⟩
          rw [w x y hx hy]
          unfold wP
          have : (decide (x < j) || (decide (x = j) && decide (y < n))) = (decide (x < j + 1) || (decide (x = j + 1) && decide (y < 0))) := by
            rw [← Bool.decide_and, ← Bool.decide_or, ← Bool.decide_and, ← Bool.decide_or]
            exact decide_eq_decide.mpr (by omega)
          rw [this]
      · rw [w j i hj hi, wP_col] at z
        refine k _ _ ⟨_, _, _, rfl, g, fun x y hx hy => ?_⟩
        rw [w x y hx hy]
        unfold wP
        by_cases q : x = j
        · subst q
          rw [z]
          simp
        · have : (decide (x < j) || (decide (x = j) && decide (y < 0))) = (decide (x < j + 1) || (decide (x = j + 1) && decide (y < 0))) := by
            rw [← Bool.decide_and, ← Bool.decide_or, ← Bool.decide_and, ← Bool.decide_or]
            exact decide_eq_decide.mpr (by omega)
          rw [this]
    · obtain ⟨rows, p, r, rfl, g, w⟩ := hh
      rw [List.length_map, List.length_range] at w
      refine k _ _ ⟨_, _, _, _, rfl, g, ci.step hi fun x y hx hy => ?_⟩
      rw [w x y hx hy]
      unfold wP
      rw [decide_eq_true hx, Bool.true_or, Bool.true_and]
  · obtain ⟨rows, o, p, r, rfl, g, ci⟩ := hh
    rw [List.length_map, List.length_range] at ci
    exact ret_ev (ev_var (d := .lst (as.map .ref)) rfl) (q _ _ g ⟨(fun i j k hi hj hk p q => ci.1 i k j hi hk hj p q), ci.2.1, ci.2.2⟩)
end PL
/-! B7: orders put behind -/
namespace PL
open PySem PySem.Spec PyProof.Rows L2 PySem.W

theorem nodup_nats {ns : List Nat} (h : (ns.map natD).Nodup) : ns.Nodup := by
  unfold List.Nodup at h ⊢
  rw [List.pairwise_map] at h
  exact h.imp fun {a b} q e => q (by rw [e])
theorem perm_nodup {ds : List D} {n : Nat} (h : ds.Perm ((List.range n).map natD)) : ds.Nodup := by
  refine h.nodup_iff.mpr ?_
  unfold List.Nodup
  rw [List.pairwise_map]
  refine List.pairwise_lt_range.imp fun {a b} q e => ?_
  injection e with e
  omega
/-- lots in a row, apart; what is ahead lies in one lot; it goes on -/
structure Lots (n : Nat) (ls : List (List Nat)) (t : Nat → Nat → Bool) : Prop where
  nd : ls.flatten.Nodup
  one : ∀ x y, x < n → y < n → t x y = true → ∃ l, l ∈ ls ∧ x ∈ l ∧ y ∈ l
  so : StrictO n t
theorem Lots.same {n : Nat} {ls : List (List Nat)} {t : Nat → Nat → Bool} (h : Lots n ls t) {x : Nat} {k l : Nat} {a b : List Nat} (ha : ls[k]? = some a) (hb : ls[l]? = some b) (xa : x ∈ a) (xb : x ∈ b) : k = l := by
  have pw := (List.pairwise_flatten.mp h.nd).2
  obtain ⟨hk, ea⟩ := List.getElem?_eq_some_iff.mp ha
  obtain ⟨hl, eb⟩ := List.getElem?_eq_some_iff.mp hb
  rcases Nat.lt_trichotomy k l with q | q | q
  · exact absurd rfl (List.pairwise_iff_getElem.mp pw k l hk hl q x (by rw [ea]; exact xa) x (by rw [eb]; exact xb))
  · exact q
  · exact absurd rfl (List.pairwise_iff_getElem.mp pw l k hl hk q x (by rw [eb]; exact xb) x (by rw [ea]; exact xa))
/-- two lots become one, the first ahead of the second or not -/
theorem Lots.glue {n c : Nat} {ls : List (List Nat)} {t t' : Nat → Nat → Bool} {a b : List Nat} (h : Lots n ls t) (ha : ls[c]? = some a) (hb : ls[c + 1]? = some b) (sp : ls = ls.take c ++ (a :: b :: ls.drop (c + 2)))
    (e : (∀ x y, x < n → y < n → t' x y = t x y) ∨ (∀ x y, x < n → y < n → t' x y = (t x y || (decide (x ∈ a) && decide (y ∈ b))))) : Lots n (ls.take c ++ [a ++ b] ++ ls.drop (c + 2)) t' := by
  have fl : (ls.take c ++ [a ++ b] ++ ls.drop (c + 2)).flatten = ls.flatten := by
    conv => rhs; rw [sp]
    simp [List.flatten_append]
  have lotIn : ∀ l x y, l ∈ ls → x ∈ l → y ∈ l → ∃ l', l' ∈ ls.take c ++ [a ++ b] ++ ls.drop (c + 2) ∧ x ∈ l' ∧ y ∈ l' := fun l x y hl hx hy => by
    rw [sp] at hl
    rcases List.mem_append.mp hl with hl | hl
    · exact ⟨l, List.mem_append_left _ (List.mem_append_left _ hl), hx, hy⟩
    · rcases List.mem_cons.mp hl with rfl | hl
      · exact ⟨l ++ b, List.mem_append_left _ (List.mem_append_right _ (List.mem_singleton.mpr rfl)), List.mem_append_left _ hx, List.mem_append_left _ hy⟩
      · rcases List.mem_cons.mp hl with rfl | hl
        · exact ⟨a ++ l, List.mem_append_left _ (List.mem_append_right _ (List.mem_singleton.mpr rfl)), List.mem_append_right _ hx, List.mem_append_right _ hy⟩
        · exact ⟨l, List.mem_append_right _ hl, hx, hy⟩
  have ab : ∀ x, x ∈ a → x ∈ b → False := fun x xa xb => by
    have := h.same ha hb xa xb
    omega
  rcases e with e | e
  · refine ⟨by rw [fl]; exact h.nd, fun x y hx hy q => ?_, fun i hi => by rw [e i i hi hi]; exact h.so.1 i hi, fun i j k hi hj hk p q => ?_⟩
    · rw [e x y hx hy] at q
      obtain ⟨l, hl, h1, h2⟩ := h.one x y hx hy q
      exact lotIn l x y hl h1 h2
    · rw [e i j hi hj] at p
      rw [e j k hj hk] at q
      rw [e i k hi hk]
      exact h.so.2 i j k hi hj hk p q
  · have e' : ∀ x y, x < n → y < n → (t' x y = true ↔ t x y = true ∨ (x ∈ a ∧ y ∈ b)) := fun x y hx hy => by
      rw [e x y hx hy, Bool.or_eq_true, Bool.and_eq_true, decide_eq_true_eq, decide_eq_true_eq]
    have inA : ∀ x y, x < n → y < n → t x y = true → (x ∈ a ↔ y ∈ a) ∧ (x ∈ b ↔ y ∈ b) := fun x y hx hy q => by
      obtain ⟨l, hl, h1, h2⟩ := h.one x y hx hy q
      obtain ⟨k, hk, el⟩ := List.mem_iff_getElem.mp hl
      have gl : ls[k]? = some l := by rw [List.getElem?_eq_getElem hk, el]
      refine ⟨⟨fun q => ?_, fun q => ?_⟩, ⟨fun q => ?_, fun q => ?_⟩⟩
      · cases h.same gl ha h1 q; rw [gl] at ha; cases ha; exact h2
      · cases h.same gl ha h2 q; rw [gl] at ha; cases ha; exact h1
      · cases h.same gl hb h1 q; rw [gl] at hb; cases hb; exact h2
      · cases h.same gl hb h2 q; rw [gl] at hb; cases hb; exact h1
    refine ⟨by rw [fl]; exact h.nd, fun x y hx hy q => ?_, fun i hi => ?_, fun i j k hi hj hk p q => ?_⟩
    · rcases (e' x y hx hy).mp q with q | ⟨q1, q2⟩
      · obtain ⟨l, hl, h1, h2⟩ := h.one x y hx hy q
        exact lotIn l x y hl h1 h2
      · exact ⟨a ++ b, List.mem_append_left _ (List.mem_append_right _ (List.mem_singleton.mpr rfl)), List.mem_append_left _ q1, List.mem_append_right _ q2⟩
    · cases z : t' i i with
      | false => rfl
      | true =>
        rcases (e' i i hi hi).mp z with q | ⟨q1, q2⟩
        · rw [h.so.1 i hi] at q; cases q
        · exact (ab i q1 q2).elim
    · refine (e' i k hi hk).mpr ?_
      rcases (e' i j hi hj).mp p with p | ⟨p1, p2⟩
      · rcases (e' j k hj hk).mp q with q | ⟨q1, q2⟩
        · exact .inl (h.so.2 i j k hi hj hk p q)
        · exact .inr ⟨(inA i j hi hj p).1.mpr q1, q2⟩
      · rcases (e' j k hj hk).mp q with q | ⟨q1, q2⟩
        · exact .inr ⟨p1, (inA j k hj hk q).2.mp p2⟩
        · exact (ab j q1 p2).elim
section
variable {Φ : Md} {ρ : Rho} {μ : Mu} {E : End} {rest : IS} {a b e it : IE}
theorem ret_semE (h : semE Φ e ρ μ E.rt (fun x μ' => E.ex x ρ μ')) : semS Φ (.sq (.ret e) rest) ρ μ E := h
theorem and_sem {R : RD} {X : RX} (h : semE Φ a ρ μ (fun x μ1 => ∃ c, x = .bl c ∧ match c with
      | true => semE Φ b ρ μ1 R X
      | false => R (.bl false) μ1) X) : semE Φ (.and a b) ρ μ R X := h
theorem lcT_sem {R : RD} {X : RX} {el : IE} {t : Nat} {m : Bool} (h : semI Φ it ρ μ (fun ds g μ1 => ds.length ≤ lim ∧
      turns (fun d acc μ2 K => semE Φ el ((wipeD ρ [t]).set t (some d)) μ2 (fun y μ4 => K (acc ++ [y]) μ4) (fun _ _ => False)) g ds [] μ1 fun acc μ2 => mkL m acc μ2 R) X) : semE Φ (.lc m el [t] false it false .nl [t]) ρ μ R X := h
theorem draws_sem {t n k : Nat} {ds : List D} {h : Addr} {M : MO} {R : RD} {X : RX} (f : Φ.fns "_law_draw" = some sp_draw) (hi : evP Φ it ρ μ ds) (hl : ds.length = n) (hn : n ≤ 1000) (h0 : ∀ d, ((wipeD ρ [t]).set t (some d))[0]? = some (some (.ref h))) (hk : 0 < k) (hk2 : k ≤ 1000000) (e : μ h = some M) (hM : IsHand M)
    (q : ∀ (ns : List Nat) M', ns.length = n → IsHand M' → R (.lst (ns.map natD)) (μ.set h M')) : semE Φ (.lc false (.call "_law_draw" (.cs (.var 0) (.cs (.int (k : Nat)) .nl))) [t] false it false .nl [t]) ρ μ R X := by
  refine lcT_sem (hi _ _ ⟨by rw [hl]; unfold lim; omega, ?_⟩)
  refine turns_by (fun i acc μ' => ∃ (ns : List Nat) (M' : MO), acc = ns.map natD ∧ ns.length = i ∧ IsHand M' ∧ μ' = μ.set h M') ⟨[], M, rfl, rfl, hM, (Mu.set_self e).symm⟩ (fun _ _ _ _ _ => trivial) (fun i d acc μ' K hd hh kk => ?_) (fun acc μ' hh => ?_)
  · obtain ⟨ns, M', rfl, hl', hM', rfl⟩ := hh
    refine draw_sem (m := k) f (ev_var (h0 d)) ev_int hk hk2 Mu.set_same hM' fun x M2 _ hM2 => kk _ _ ⟨ns ++ [x], M2, by rw [List.map_append] <;> rfl, by rw [List.length_append, hl'] <;> rfl, hM2, Mu.set_set⟩
  · obtain ⟨ns, M', rfl, hl', hM', rfl⟩ := hh
    exact q ns M' (hl'.trans hl) hM'
theorem ix_ev {ns : List Nat} {v w i : Nat} (h0 : ρ[v]? = some (some (.lst (ns.map natD)))) (h1 : ρ[w]? = some (some (natD i))) (hi : i < ns.length) : ev Φ (.idx (.var v) (.var w)) ρ μ (natD (ns.getD i 0)) := ev_idxN (n := i) (ev_var h0) (ev_var h1) rfl rfl (nats_at hi)
theorem ltN {c d : Nat} {R : Bool → Prop} (z : R (decide ((c : Int) < (d : Int)))) : opCmp .lt (natD c) (natD d) μ R := z
theorem len_mat {k i : Nat} {t : Nat → Nat → Bool} (h : ρ[i]? = some (some (matD k t))) : ev Φ (.bi .len false (.cs (.var i) .nl)) ρ μ (.int (k : Nat)) := by
  have := ev_len (m := false) (ev_var (Φ := Φ) (μ := μ) h) rfl
  rw [List.length_map, List.length_range] at this
  exact this
theorem cut_drop {xs : List D} {k : Nat} : cutD xs (some (k : Int)) none = xs.drop k := by
  unfold cutD
  rw [HT.sIx_nat, HT.sIx_none]
  by_cases h : k ≤ xs.length
  · rw [Nat.min_eq_left h, List.take_of_length_le (by rw [List.length_drop]; omega)]
  · rw [Nat.min_eq_right (by omega), List.drop_of_length_le (by omega), List.drop_of_length_le (show xs.length ≤ k by omega)]
    simp
theorem evO_nl : evO Φ .nl ρ μ none := fun R X z => z
theorem evO_bin {o : BOp} {m : Bool} {n : Int} (h : ev Φ (.bin o m a b) ρ μ (.int n)) : evO Φ (.bin o m a b) ρ μ (some n) := fun R X z => h (fun z μ3 => ∃ n, z = .int n ∧ R (some n) μ3) X ⟨n, rfl, z⟩
theorem ev_slice {x d : D} {lo hi : IE} {l h' : Option Int} {m : Bool} (h : ev Φ a ρ μ x) (h1 : evO Φ lo ρ μ l) (h2 : evO Φ hi ρ μ h') (q : ∀ R : RD, R d μ → opSlice m x l h' μ R) : ev Φ (.slice m a lo hi) ρ μ d := fun R X z => h _ _ (h1 _ _ (h2 _ _ (q R z)))
end
def lotsD (ls : List (List Nat)) : D := .lst (ls.map fun l => .lst (l.map natD))
def sp_behind : DSp := sp2 fun x y μ R X => ∃ (h : Addr) (n : Nat) (M : MO), x = .ref h ∧ y = .int n ∧ n ≤ 500 ∧ μ h = some M ∧ IsHand M ∧ ∀ t M', StrictO n t → IsHand M' → R (matD n t) (μ.set h M')
theorem m_behind {Φ : Md} (f1 : Φ.fns "_law_draw" = some sp_draw) (f2 : Φ.fns "_law_mixed" = some sp_mixed) : ∀ x y μ R X, (∃ (h : Addr) (n : Nat) (M : MO), x = .ref h ∧ y = .int n ∧ n ≤ 500 ∧ μ h = some M ∧ IsHand M ∧ ∀ t M', StrictO n t → IsHand M' → R (matD n t) (μ.set h M')) → semS Φ i__law_put_behind (startD 8 [x, y]) μ (dEnd R X) := by
  rintro _ _ μ R X ⟨h, n, M, rfl, rfl, hn, e, hM, q⟩
  have ern : ∀ (ρ : Rho) (μ : Mu), ρ[1]? = some (some (.int n)) → ev Φ (.rng1 false (.var 1)) ρ μ (.lst ((List.range n).map natD)) := fun ρ μ h => by
    have := ev_rng1 (Φ := Φ) (μ := μ) (ev_var h) (by unfold lim; omega) (by unfold lim; omega)
    rw [Int.toNat_natCast] at this
    exact this
  refine asg2_sem (lcT_sem (show semI Φ (.call "_law_mixed" _) _ μ _ _ from ⟨_, f2, evA_cs (ev_var (d := .ref h) rfl) (evA_cs (ern _ _ rfl) evA_nl) _ _ ⟨h, _, M, rfl, rfl, by rw [List.length_map, List.length_range]; omega, e, hM, fun ds' M1 pm hM1 => ?_⟩⟩))
  have nnd0 := perm_nodup pm
  obtain ⟨ns, rfl, nl, nb⟩ := perm_nats pm
  have nnd : ns.Nodup := nodup_nats nnd0
  refine ⟨by rw [List.length_map, nl]; unfold lim; omega, ?_⟩
  refine turns_map (fun d => .lst [d]) trivial (fun d hd acc K k => (ev_lst (evA_cs (ev_var (i := 4) (d := d) rfl) evA_nl)) _ _ k) ?_
  rw [List.nil_append, List.map_map]
  have e1 : ns.map ((fun d => D.lst [d]) ∘ natD) = (ns.map fun k => [k]).map fun l => D.lst (l.map natD) := by rw [List.map_map] <;> rfl
  rw [e1]
  have flt : (ns.map fun k => [k]).flatten = ns := by
    clear e1 pm nl nb nnd nnd0
    induction ns with
    | nil => rfl
    | cons y ys ih => rw [List.map_cons, List.flatten_cons, ih] <;> rfl
  refine grid_sem (n := n) (evP_rangeN (ev_var (i := 1) (d := .int n) rfl) (by omega)) (by rw [List.length_map, List.length_range]) (by omega) (fun d μ' => ev_var rfl) fun as μ2 g => ?_
  refine ⟨fun w ρ1 μ3 => ∃ (ls : List (List Nat)) (rows : List (List Bool)) (o p r s : Option D) (M' : MO), ρ1 = [some (.ref h), some (.int n), some (lotsD ls), some (.lst (as.map .ref)), o, p, r, s] ∧ IsHand M' ∧ Grid (μ.set h M') μ3 as n rows ∧ ls.length = w ∧ ls.length ≤ 500 ∧ ls.flatten.length ≤ 500 ∧ (∀ l, l ∈ ls → ∀ k, k ∈ l → k < n) ∧ Lots n ls (atB rows),
    ⟨_, ns.map fun k => [k], _, _, _, _, _, M1, rfl, hM1, g, rfl, by rw [List.length_map]; omega, by rw [flt]; omega, fun l hl k hk => ?_, by rw [flt]; exact nnd, (fun x y _ _ z => by rw [at_false] at z; cases z), (fun i _ => at_false), (fun i j k _ _ _ z => by rw [at_false] at z; cases z)⟩, ?_⟩
  · obtain ⟨k', hk', rfl⟩ := List.mem_map.mp hl
    rw [List.mem_singleton.mp hk]
    exact nb _ hk'
  rintro w ρ1 μ3 ⟨ls, rows, o, p, r, s, M2, rfl, hM2, g2, rfl, hl1, hl2, hb, lo⟩
  have el : ∀ (p r s : Option D) (μ : Mu), ev Φ (.bi .len false (.cs (.var 2) .nl)) [some (.ref h), some (.int n), some (lotsD ls), some (.lst (as.map .ref)), o, p, r, s] μ (.int (ls.length : Nat)) := fun p r s μ => by
    have := ev_len (m := false) (ev_var (Φ := Φ) (i := 2) (ρ := [some (.ref h), some (.int n), some (lotsD ls), some (.lst (as.map .ref)), o, p, r, s]) (μ := μ) (d := lotsD ls) rfl) rfl
    rw [List.length_map] at this
    exact this
  refine evT_cmp (el p r s μ3) ev_int (fun R z => cmp_gt z) _ _ ?_
  cases hz : decide ((1 : Int) < (ls.length : Nat)) with
  | false => exact ret_sem (ev_var (i := 3) (d := .lst (as.map .ref)) rfl _ _ (g2.ret (q _ M2 lo.so hM2)))
  | true =>
    have hz := of_decide_eq_true hz
    have em : ev Φ (.bin .sub false (.bi .len false (.cs (.var 2) .nl)) (.int 1)) [some (.ref h), some (.int n), some (lotsD ls), some (.lst (as.map .ref)), o, p, r, s] μ3 (.int ((ls.length - 1 : Nat) : Int)) := by
      have := ev_sub (m := false) (el p r s μ3) (ev_int (n := 1))
      rw [show ((ls.length : Nat) : Int) - 1 = ((ls.length - 1 : Nat) : Int) by omega] at this
      exact this
    refine asg_sem (draw_sem (m := ls.length - 1) f1 (ev_var rfl) em (by omega) (by omega) (g2.keep (m0 := M2) Mu.set_same) hM2 fun at_ M3 hat hM3 => ?_)
    have g3 := g2.out (h := h) (m0 := M2) Mu.set_same M3
    rw [Mu.set_set] at g3
    have g1a : ls[at_]? = some (ls.getD at_ []) := getD_some (by omega)
    have g1b : ls[at_ + 1]? = some (ls.getD (at_ + 1) []) := getD_some (by omega)
    have ia : ∀ (r s : Option D) (μ : Mu), ev Φ (.idx (.var 2) (.var 5)) [some (.ref h), some (.int n), some (lotsD ls), some (.lst (as.map .ref)), o, some (natD at_), r, s] μ (.lst ((ls.getD at_ []).map natD)) := fun r s μ => ev_idxN (n := at_) (ev_var (d := lotsD ls) rfl) (ev_var (d := natD at_) rfl) rfl rfl (by rw [List.getElem?_map, g1a] <;> rfl)
    have ib : ∀ (r s : Option D) (μ : Mu), ev Φ (.idx (.var 2) (.bin .add false (.var 5) (.int 1))) [some (.ref h), some (.int n), some (lotsD ls), some (.lst (as.map .ref)), o, some (natD at_), r, s] μ (.lst ((ls.getD (at_ + 1) []).map natD)) := fun r s μ => ev_idxN (n := at_ + 1) (ev_var (d := lotsD ls) rfl) (ev_add (ev_var (i := 5) (d := natD at_) rfl) ev_int) rfl (by omega) (by rw [List.getElem?_map, g1b] <;> rfl)
    have ba : ∀ k, k ∈ ls.getD at_ [] → k < n := hb _ (List.mem_of_getElem? g1a)
    have bb : ∀ k, k ∈ ls.getD (at_ + 1) [] → k < n := hb _ (List.mem_of_getElem? g1b)
    generalize hT0 : atB rows = T0 at lo
    have split : ls = ls.take at_ ++ (ls.getD at_ [] :: ls.getD (at_ + 1) [] :: ls.drop (at_ + 2)) := by
      conv => lhs; rw [← List.take_append_drop at_ ls]
      congr 1
      rw [List.drop_eq_getElem_cons (show at_ < ls.length by omega), List.drop_eq_getElem_cons (show at_ + 1 < ls.length by omega)]
      rw [Option.some.inj ((List.getElem?_eq_getElem (show at_ < ls.length by omega)).symm.trans g1a), Option.some.inj ((List.getElem?_eq_getElem (show at_ + 1 < ls.length by omega)).symm.trans g1b)]
    have tail : ∀ (rows : List (List Bool)) (r s : Option D) (M' : MO) (μ4 : Mu) (N : Rho → Mu → Prop) (E : End), E.nx = N → IsHand M' → Grid (μ.set h M') μ4 as n rows → ((∀ x y, x < n → y < n → atB rows x y = T0 x y) ∨ (∀ x y, x < n → y < n → atB rows x y = (T0 x y || (decide (x ∈ ls.getD at_ []) && decide (y ∈ ls.getD (at_ + 1) []))))) → (∀ ρ' μ', (∃ m', m' < ls.length ∧ ∃ (ls : List (List Nat)) (rows : List (List Bool)) (o p r s : Option D) (M' : MO), ρ' = [some (.ref h), some (.int n), some (lotsD ls), some (.lst (as.map .ref)), o, p, r, s] ∧ IsHand M' ∧ Grid (μ.set h M') μ' as n rows ∧ ls.length = m' ∧ ls.length ≤ 500 ∧ ls.flatten.length ≤ 500 ∧ (∀ l, l ∈ ls → ∀ k, k ∈ l → k < n) ∧ Lots n ls (atB rows)) → N ρ' μ') →
        semS Φ (.sq (.asg (.nm 2) (.bin .add false (.bin .add false (.slice false (.var 2) .nl (.var 5)) (.lst false (.cs (.bin .add false (.idx (.var 2) (.var 5)) (.idx (.var 2) (.bin .add false (.var 5) (.int 1)))) .nl))) (.slice false (.var 2) (.bin .add false (.var 5) (.int 2)) .nl))) .nop) [some (.ref h), some (.int n), some (lotsD ls), some (.lst (as.map .ref)), o, some (natD at_), r, s] μ4 E := fun rows r s M' μ4 N E hE hM' g' eT k => by
      have lf : ls.flatten.length = (ls.take at_).flatten.length + ((ls.getD at_ []).length + ((ls.getD (at_ + 1) []).length + (ls.drop (at_ + 2)).flatten.length)) := by
        conv => lhs; rw [split]
        simp [List.flatten_append, List.length_append]
      have s1 : ev Φ (.slice false (.var 2) .nl (.var 5)) [some (.ref h), some (.int n), some (lotsD ls), some (.lst (as.map .ref)), o, some (natD at_), r, s] μ4 (lotsD (ls.take at_)) := ev_slice (ev_var (i := 2) (d := lotsD ls) rfl) evO_nl (evO_var (i := 5) (k := (at_ : Int)) rfl) fun R z => ⟨_, rfl, by
        show R (.lst (cutD _ none (some (at_ : Int)))) μ4
        rw [cut_take, ← List.map_take]
        exact z⟩
      have s3 : ev Φ (.slice false (.var 2) (.bin .add false (.var 5) (.int 2)) .nl) [some (.ref h), some (.int n), some (lotsD ls), some (.lst (as.map .ref)), o, some (natD at_), r, s] μ4 (lotsD (ls.drop (at_ + 2))) := ev_slice (ev_var (i := 2) (d := lotsD ls) rfl) (evO_bin (ev_add (ev_var (i := 5) (d := natD at_) rfl) ev_int)) evO_nl fun R z => ⟨_, rfl, by
        show R (.lst (cutD _ (some ((at_ : Int) + 2)) none)) μ4
        rw [show ((at_ : Int) + 2) = ((at_ + 2 : Nat) : Int) by omega, cut_drop, ← List.map_drop]
        exact z⟩
      have s2 : ev Φ (.lst false (.cs (.bin .add false (.idx (.var 2) (.var 5)) (.idx (.var 2) (.bin .add false (.var 5) (.int 1)))) .nl)) [some (.ref h), some (.int n), some (lotsD ls), some (.lst (as.map .ref)), o, some (natD at_), r, s] μ4 (lotsD [ls.getD at_ [] ++ ls.getD (at_ + 1) []]) := by
        have := ev_lst (evA_cs (ev_addL (ia r s μ4) (ib r s μ4) (by rw [List.length_map, List.length_map]; unfold lim; omega)) evA_nl)
        rw [← List.map_append] at this
        exact this
      have s4 : ev Φ (.bin .add false (.bin .add false (.slice false (.var 2) .nl (.var 5)) (.lst false (.cs (.bin .add false (.idx (.var 2) (.var 5)) (.idx (.var 2) (.bin .add false (.var 5) (.int 1)))) .nl))) (.slice false (.var 2) (.bin .add false (.var 5) (.int 2)) .nl)) [some (.ref h), some (.int n), some (lotsD ls), some (.lst (as.map .ref)), o, some (natD at_), r, s] μ4 (lotsD (ls.take at_ ++ [ls.getD at_ [] ++ ls.getD (at_ + 1) []] ++ ls.drop (at_ + 2))) := by
        have := ev_addL (ev_addL s1 s2 (by rw [List.length_map, List.length_map, List.length_take]; show _ + 1 ≤ _; unfold lim; omega)) s3 (by rw [List.length_append, List.length_map, List.length_map, List.length_map, List.length_take, List.length_drop]; show _ + 1 + _ ≤ _; unfold lim; omega)
        unfold lotsD
        rw [List.map_append, List.map_append]
        exact this
      refine asg_ev s4 ?_
      show E.nx _ _
      rw [hE]
      have nlen : (ls.take at_ ++ [ls.getD at_ [] ++ ls.getD (at_ + 1) []] ++ ls.drop (at_ + 2)).length = ls.length - 1 := by
        rw [List.length_append, List.length_append, List.length_take, List.length_drop]
        show min at_ ls.length + 1 + _ = _
        omega
      refine k _ _ ⟨ls.length - 1, by omega, _, rows, _, _, _, _, M', rfl, hM', g', nlen, by omega, ?_, fun l hl k hk => ?_, lo.glue g1a g1b split eT⟩
      · simp only [List.flatten_append, List.length_append, List.flatten_cons, List.flatten_nil, List.append_nil]
        omega
      · rcases List.mem_append.mp hl with hl | hl
        · rcases List.mem_append.mp hl with hl | hl
          · exact hb l (List.mem_of_mem_take hl) k hk
          · rw [List.mem_singleton.mp hl] at hk
            rcases List.mem_append.mp hk with hk | hk
            · exact ba k hk
            · exact bb k hk
        · exact hb l (List.mem_of_mem_drop hl) k hk
    show semS Φ (.sq (.ite _ _ _) _) [some (.ref h), some (.int n), some (lotsD ls), some (.lst (as.map .ref)), o, some (natD at_), r, s] (μ3.set h M3) _
    refine if_sem (cmpT_sem (draw_sem (m := 2) f1 (ev_var rfl) ev_int (by omega) (by omega) (g3.keep (m0 := M3) Mu.set_same) hM3 fun k1 M4 _ hM4 => ?_))
    have g4 := g3.out (h := h) (m0 := M3) Mu.set_same M4
    rw [Mu.set_set] at g4
    refine ev_int _ _ ?_
    show (match decide ((k1 : Int) = 0) with | true => _ | false => _)
    cases decide ((k1 : Int) = 0) with
    | false => exact tail rows r s M4 _ _ _ rfl hM4 g4 (.inl fun x y _ _ => by rw [hT0]) fun _ _ z => z
    | true =>
      refine for_evP (evP_of (ia r s _) (fun _ _ z => z) rfl) ?_
      refine forT_by (fun i ρ1 μ5 => ∃ (rows : List (List Bool)) (r s : Option D), ρ1 = [some (.ref h), some (.int n), some (lotsD ls), some (.lst (as.map .ref)), o, some (natD at_), r, s] ∧ Grid (μ.set h M4) μ5 as n rows ∧ ∀ x y, x < n → y < n → atB rows x y = (T0 x y || (decide (x ∈ (ls.getD at_ []).take i) && decide (y ∈ ls.getD (at_ + 1) [])))) ⟨rows, r, s, rfl, g4, fun x y _ _ => by rw [hT0]; simp⟩ (fun _ _ _ _ _ => trivial) (fun i d ρ1 μ5 N hd hh k => ?_) (fun ρ1 μ5 hh => ?_)
      · obtain ⟨rows, r, s, rfl, g5, w5⟩ := hh
        rw [List.getElem?_map] at hd
        obtain ⟨x, hxi, rfl⟩ := Option.map_eq_some_iff.mp hd
        have hx := List.mem_of_getElem? hxi
        show semS Φ (.sq _ .nop) [some (.ref h), some (.int n), some (lotsD ls), some (.lst (as.map .ref)), o, some (natD at_), some (natD x), s] μ5 _
        refine for_evP (evP_of (ib _ s _) (fun _ _ z => z) rfl) ?_
        refine forT_by (fun j ρ1 μ5 => ∃ (rows : List (List Bool)) (s : Option D), ρ1 = [some (.ref h), some (.int n), some (lotsD ls), some (.lst (as.map .ref)), o, some (natD at_), some (natD x), s] ∧ Grid (μ.set h M4) μ5 as n rows ∧ ∀ x' y, x' < n → y < n → atB rows x' y = ((T0 x' y || (decide (x' ∈ (ls.getD at_ []).take i) && decide (y ∈ ls.getD (at_ + 1) []))) || (decide (x' = x) && decide (y ∈ (ls.getD (at_ + 1) []).take j)))) ⟨rows, s, rfl, g5, fun x' y hx' hy => by rw [w5 x' y hx' hy]; simp⟩ (fun _ _ _ _ _ => trivial) (fun j d ρ1 μ5 N hd hh k => ?_) (fun ρ1 μ5 hh => ?_)
        · obtain ⟨rows, s, rfl, g5, w5⟩ := hh
          rw [List.getElem?_map] at hd
          obtain ⟨y, hyj, rfl⟩ := Option.map_eq_some_iff.mp hd
          have hy := List.mem_of_getElem? hyj
          refine asgG ev_bl (g5.put (i := x) (j := y) (ev_var rfl) (ev_var (d := natD x) rfl) (ev_var (d := natD y) rfl) rfl (ba x hx) (bb y hy) (by omega) fun μ6 g6 => k _ _ ⟨_, _, rfl, g6, fun x' y' hx' hy' => ?_⟩)
          rw [at_set g5 (ba x hx) (bb y hy), List.take_succ, hyj]
          have em : decide (y' ∈ (ls.getD (at_ + 1) []).take j ++ (some y).toList) = (decide (y' ∈ (ls.getD (at_ + 1) []).take j) || decide (y' = y)) := by
            rw [← Bool.decide_or]
            exact decide_eq_decide.mpr (by rw [List.mem_append]; simp)
          rw [em]
          split
          · rename_i q
            obtain ⟨rfl, rfl⟩ := q
            simp
          · rename_i q
            rw [w5 x' y' hx' hy']
            have : (decide (x' = x) && decide (y' = y)) = false := by
              rw [← Bool.decide_and]
              exact decide_eq_false q
            rw [Bool.and_or_distrib_left, this, Bool.or_false]
        · obtain ⟨rows, s, rfl, g5, w5⟩ := hh
          rw [List.length_map, List.take_length] at w5
          refine k _ _ ⟨_, _, _, rfl, g5, fun x' y hx' hy => ?_⟩
          rw [w5 x' y hx' hy, List.take_succ, hxi]
          have em : decide (x' ∈ (ls.getD at_ []).take i ++ (some x).toList) = (decide (x' ∈ (ls.getD at_ []).take i) || decide (x' = x)) := by
            rw [← Bool.decide_or]
            exact decide_eq_decide.mpr (by rw [List.mem_append]; simp)
          rw [em, Bool.and_or_distrib_right, Bool.or_assoc]
      · obtain ⟨rows, r, s, rfl, g5, w5⟩ := hh
        rw [List.length_map, List.take_length] at w5
        exact tail rows r s M4 _ _ _ rfl hM4 g5 (.inr w5) fun _ _ z => z
end PL
/-! B8: tables of orders, letters, orders -/
namespace PL
open PySem PySem.Spec PyProof.Rows L2 PySem.W

theorem ev_rngN {Φ : Md} {ρ : Rho} {μ : Mu} {i n : Nat} (h : ρ[i]? = some (some (.int n))) (hn : n ≤ 1000) : ev Φ (.rng1 false (.var i)) ρ μ (.lst ((List.range n).map natD)) := by
  have := ev_rng1 (Φ := Φ) (μ := μ) (ev_var h) (by unfold lim; omega) (by unfold lim; omega)
  rw [Int.toNat_natCast] at this
  exact this
theorem addI {i j : Int} {m : Bool} {μ : Mu} {R : RD} (h : R (.int (i + j)) μ) : opBin .add m (.int i) (.int j) μ R := h
def kindIE : IE := .lc false (.lc true (.and (.cmp .lt (.idx (.var 4) (.var 9)) (.idx (.var 4) (.var 8))) (.cmp .lt (.call "_law_draw" (.cs (.var 0) (.cs (.int 6) .nl))) (.var 6))) [8] false (.range1 (.var 2)) false .nl [8]) [9] false (.range1 (.var 2)) false .nl [9]
theorem rows_sem {Φ : Md} {μ : Mu} {h : Addr} {M : MO} {n q6 : Nat} {d1 d3 d5 : D} {fs : List Nat} {R : RD} {X : RX} (f1 : Φ.fns "_law_draw" = some sp_draw) (hn : n ≤ 500) (hf : fs.length = n) (hM : IsHand M)
    (q : ∀ as μ' rows M', IsHand M' → Grid (μ.set h M') μ' as n rows → (∀ x y, x < n → y < n → atB rows x y = true → fs.getD x 0 < fs.getD y 0) → R (.lst (as.map .ref)) μ') :
    semE Φ kindIE [some (.ref h), some d1, some (.int n), some d3, some (.lst (fs.map natD)), some d5, some (.int q6), none, none, none, none, none, none] (μ.set h M) R X := by
  refine lcT_sem (evP_rangeN (ev_var (i := 2) (d := .int n) rfl) (by omega) _ _ ⟨by rw [List.length_map, List.length_range]; unfold lim; omega, ?_⟩)
  refine turns_by (fun i acc μ' => ∃ (as : List Addr) (rows : List (List Bool)) (M' : MO), acc = as.map D.ref ∧ IsHand M' ∧ Cells (μ.set h M') μ' as (rows.map rowM) ∧ rows.length = i ∧ (∀ x, x < i → (rows.getD x []).length = n) ∧ ∀ x y, x < i → y < n → atB rows x y = true → fs.getD x 0 < fs.getD y 0) ⟨[], [], M, rfl, hM, Cells.nil, rfl, (fun _ z => by omega), fun _ _ z => by omega⟩ (fun _ _ _ _ _ => trivial) (fun i d acc μ' K hd hh kk => ?_) (fun acc μ' hh => ?_)
  · obtain ⟨as, rows, M', rfl, hM', c, hl, hw, hs⟩ := hh
    have hi : i < n := by
      have := (List.getElem?_eq_some_iff.mp hd).1
      simpa using this
    rw [range_at hi] at hd
    cases hd
    show semE Φ (.lc true _ [8] false _ false .nl [8]) [some (.ref h), some d1, some (.int n), some d3, some (.lst (fs.map natD)), some d5, some (.int q6), none, none, some (natD i), none, none, none] μ' _ _
    refine lcT_sem (evP_rangeN (ev_var (i := 2) (d := .int n) rfl) (by omega) _ _ ⟨by rw [List.length_map, List.length_range]; unfold lim; omega, ?_⟩)
    refine turns_by (fun j acc2 μ2 => ∃ (r : List Bool) (M' : MO), acc2 = r.map D.bl ∧ r.length = j ∧ IsHand M' ∧ Cells (μ.set h M') μ2 as (rows.map rowM) ∧ ∀ y, y < j → r.getD y false = true → fs.getD i 0 < fs.getD y 0) ⟨[], M', rfl, rfl, hM', c, fun _ z => by omega⟩ (fun _ _ _ _ _ => trivial) (fun j d acc2 μ2 K2 hd hh kk2 => ?_) (fun acc2 μ2 hh => ?_)
    · obtain ⟨r, M2, rfl, hr, hM2, c2, hr2⟩ := hh
      have hj : j < n := by
        have := (List.getElem?_eq_some_iff.mp hd).1
        simpa using this
      rw [range_at hj] at hd
      cases hd
      show semE Φ (.and _ _) [some (.ref h), some d1, some (.int n), some d3, some (.lst (fs.map natD)), some d5, some (.int q6), none, some (natD j), some (natD i), none, none, none] μ2 _ _
      refine and_sem (ev_cmp (ix_ev (ns := fs) (v := 4) (w := 9) (i := i) rfl rfl (by omega)) (ix_ev (ns := fs) (v := 4) (w := 8) (i := j) rfl rfl (by omega)) (fun R z => ltN z) _ _ ⟨_, rfl, ?_⟩)
      have grow : ∀ b : Bool, (b = true → fs.getD i 0 < fs.getD j 0) → ∀ y, y < j + 1 → (r ++ [b]).getD y false = true → fs.getD i 0 < fs.getD y 0 := fun b hb y hy e => by
        rw [List.getD_eq_getElem?_getD] at e
        by_cases q : y < r.length
        · rw [List.getElem?_append_left q] at e
          exact hr2 y (by omega) (by rw [List.getD_eq_getElem?_getD]; exact e)
        · have : y = j := by omega
          subst this
          rw [List.getElem?_append_right (by omega), hr, Nat.sub_self] at e
          exact hb e
      cases hdc : decide (((fs.getD i 0 : Nat) : Int) < (fs.getD j 0 : Nat)) with
      | false => exact kk2 _ _ ⟨r ++ [false], M2, by rw [List.map_append] <;> rfl, by rw [List.length_append, hr] <;> rfl, hM2, c2, grow false (fun z => by cases z)⟩
      | true =>
        refine cmp_sem (draw_sem (m := 6) f1 (ev_var rfl) ev_int (by omega) (by omega) (c2.keep (m0 := M2) Mu.set_same) hM2 fun k M3 _ hM3 => ?_)
        have c3 := c2.out (h := h) (m0 := M2) Mu.set_same M3
        rw [Mu.set_set] at c3
        exact ev_var (i := 6) (d := .int q6) rfl _ _ (kk2 _ _ ⟨r ++ [decide ((k : Int) < (q6 : Int))], M3, by rw [List.map_append] <;> rfl, by rw [List.length_append, hr] <;> rfl, hM3, c3, grow _ (fun _ => by have := of_decide_eq_true hdc; omega)⟩)
    · obtain ⟨r, M2, rfl, hr, hM2, c2, hr2⟩ := hh
      rw [List.length_map, List.length_range] at hr2
      rw [List.length_map, List.length_range] at hr
      intro a ha
      refine kk _ _ ⟨as ++ [a], rows ++ [r], M2, by rw [List.map_append] <;> rfl, hM2, by rw [List.map_append]; exact c2.add ha, by rw [List.length_append, hl] <;> rfl, fun x hx => ?_, fun x y hx hy e => ?_⟩
      · rw [List.getD_eq_getElem?_getD]
        by_cases q : x < rows.length
        · rw [List.getElem?_append_left q]
          have := hw x (by omega)
          rw [List.getD_eq_getElem?_getD] at this
          exact this
        · rw [List.getElem?_append_right (by omega), show x - rows.length = 0 by omega]
          exact hr
      · unfold atB at e
        rw [List.getD_eq_getElem?_getD (l := rows ++ [r])] at e
        by_cases q : x < rows.length
        · rw [List.getElem?_append_left q, ← List.getD_eq_getElem?_getD] at e
          exact hs x y (by omega) hy e
        · have : x = i := by omega
          subst this
          rw [List.getElem?_append_right (by omega), hl, Nat.sub_self] at e
          exact hr2 y hy e
  · obtain ⟨as, rows, M', rfl, hM', c, hl, hw, hs⟩ := hh
    rw [List.length_map, List.length_range] at hl hw hs
    exact q as μ' rows M' hM' ⟨c, hl, hw⟩ hs
def sp_otable : DSp := sp2 fun x y μ R X => ∃ (h : Addr) (m : Nat) (M : MO), x = .ref h ∧ y = .int m ∧ 1 ≤ m ∧ m ≤ 100 ∧ μ h = some M ∧ IsHand M ∧ ∀ n t M', 1 ≤ n → n ≤ m → StrictO n t → IsHand M' → R (matD n t) (μ.set h M')
theorem m_otable {Φ : Md} (f1 : Φ.fns "_law_draw" = some sp_draw) (f2 : Φ.fns "_law_mixed" = some sp_mixed) (f3 : Φ.fns "_law_closed" = some sp_closed) (f4 : Φ.fns "_law_put_behind" = some sp_behind) : ∀ x y μ R X, (∃ (h : Addr) (m : Nat) (M : MO), x = .ref h ∧ y = .int m ∧ 1 ≤ m ∧ m ≤ 100 ∧ μ h = some M ∧ IsHand M ∧ ∀ n t M', 1 ≤ n → n ≤ m → StrictO n t → IsHand M' → R (matD n t) (μ.set h M')) → semS Φ i__law_order_table (startD 13 [x, y]) μ (dEnd R X) := by
  rintro _ _ μ R X ⟨h, m, M, rfl, rfl, hm, hm2, e, hM, q⟩
  refine asg2_sem (bin_sem (ev_int _ _ (draw_sem (m := m) f1 (ev_var rfl) (ev_var rfl) (by omega) (by omega) e hM fun k0 M1 hk0 hM1 => draw_sem (m := 7) f1 (ev_var rfl) ev_int (by omega) (by omega) Mu.set_same hM1 fun kd M2 _ hM2 => ?_)))
  rw [Mu.set_set]
  obtain ⟨n, hn, hn1, hn2⟩ : ∃ n : Nat, (1 + (k0 : Int)) = (n : Int) ∧ 1 ≤ n ∧ n ≤ m := ⟨1 + k0, by omega, by omega, by omega⟩
  rw [hn]
  refine asg2_sem (call_sem f2 (evA_cs (ev_var (d := .ref h) rfl) (evA_cs (ev_rngN (i := 2) (n := n) rfl (by omega)) evA_nl) _ _ ⟨h, _, M2, rfl, rfl, by rw [List.length_map, List.length_range]; omega, Mu.set_same, hM2, fun ds1 M3 pm1 hM3 => ?_⟩))
  rw [Mu.set_set]
  obtain ⟨fs, rfl, fl, fb⟩ := perm_nats pm1
  refine call_sem f2 (evA_cs (ev_var (d := .ref h) rfl) (evA_cs (ev_rngN (i := 2) (n := n) rfl (by omega)) evA_nl) _ _ ⟨h, _, M3, rfl, rfl, by rw [List.length_map, List.length_range]; omega, Mu.set_same, hM3, fun ds2 M4 pm2 hM4 => ?_⟩)
  rw [Mu.set_set]
  obtain ⟨ss, rfl, sl, sb⟩ := perm_nats pm2
  have fin : ∀ (t : Nat → Nat → Bool) (M5 : MO), StrictO n t → IsHand M5 → R (matD n t) (μ.set h M5) := fun t M5 so hM5 => q n t M5 hn1 hn2 so hM5
  have kt : ∀ (j : Int) (ρ : Rho) (μ : Mu), ρ[3]? = some (some (.int (kd : Nat))) → evT Φ (.cmp .eq (.var 3) (.int j)) ρ μ (decide ((kd : Int) = j)) := fun j ρ μ h => evT_cmp (ev_var h) ev_int fun R z => cmp_eq z
  show semS Φ (.sq (.ite _ _ _) _) [some (.ref h), some (.int m), some (.int n), some (.int kd), some (.lst (fs.map natD)), some (.lst (ss.map natD)), none, none, none, none, none, none, none] (μ.set h M4) _
  refine if_ev (kt 0 _ _ rfl) (fun _ => ?_) (fun _ => ?_)
  · refine asg_sem (bin_sem (ev_int _ _ (draw_sem (m := 4) f1 (ev_var rfl) ev_int (by omega) (by omega) Mu.set_same hM4 fun k4 M5 _ hM5 => ?_)))
    refine addI ?_
    rw [Mu.set_set, show (1 + (k4 : Nat) : Int) = ((1 + k4 : Nat) : Int) by omega]
    refine asg_sem (rows_sem (q6 := 1 + k4) f1 (by omega) fl hM5 fun as μ6 rows M6 hM6 g6 hs6 => ?_)
    refine ret_semE (call_sem f3 (evA_cs (ev_var (i := 7) (d := .lst (as.map .ref)) rfl) evA_nl _ _ ⟨_, as, n, rows, rfl, g6, by omega, fun rows' μ7 g7 c7 => ?_⟩))
    exact g7.ret (fin _ M6 (.of_lt (f := fun i => fs.getD i 0) c7.1 fun i j hi hj e => c7.2.2 (fun i j => fs.getD i 0 < fs.getD j 0) (fun i j k _ _ _ p q => Nat.lt_trans p q) hs6 i j hi hj e) hM6)
  · refine if_ev (kt 1 _ _ rfl) (fun _ => ?_) (fun _ => ?_)
    · exact ret_E (mat_ev (n := n) (v := fun i j => decide (((fs.getD i 0 : Nat) : Int) < (fs.getD j 0 : Nat)) && decide (((ss.getD i 0 : Nat) : Int) < (ss.getD j 0 : Nat))) (by omega) (evP_rangeN (ev_var (i := 2) (d := .int n) rfl) (by omega)) (fun i hi => evP_rangeN (ev_var (i := 2) (d := .int n) rfl) (by omega)) (fun i j hi hj => ev_and (ev_cmp (ix_ev (v := 4) (w := 9) (i := i) rfl rfl (by omega)) (ix_ev (v := 4) (w := 8) (i := j) rfl rfl (by omega)) fun R z => ltN z) fun _ => ev_cmp (ix_ev (v := 5) (w := 9) (i := i) rfl rfl (by omega)) (ix_ev (v := 5) (w := 8) (i := j) rfl rfl (by omega)) fun R z => ltN z)) (ret0 (X := X) (fin _ M4 (.of_lt (f := fun i => fs.getD i 0) (fun i j k hi hj hk p q => by
        simp only [Bool.and_eq_true, decide_eq_true_eq] at p q ⊢
        omega) fun i j hi hj p => by
        simp only [Bool.and_eq_true, decide_eq_true_eq] at p
        omega) hM4))
    · refine if_ev (kt 2 _ _ rfl) (fun _ => ?_) (fun _ => ?_)
      · refine asg_sem (draws_sem (n := n) (k := 9) f1 (evP_rangeN (ev_var (i := 2) (d := .int n) rfl) (by omega)) (by rw [List.length_map, List.length_range]) (by omega) (fun _ => rfl) (by omega) (by omega) Mu.set_same hM4 fun sp M5 l5 hM5 => ?_)
        rw [Mu.set_set]
        refine asg_sem (draws_sem (n := n) (k := 5) f1 (evP_rangeN (ev_var (i := 2) (d := .int n) rfl) (by omega)) (by rw [List.length_map, List.length_range]) (by omega) (fun _ => rfl) (by omega) (by omega) Mu.set_same hM5 fun wd M6 l6 hM6 => ?_)
        rw [Mu.set_set]
        exact ret_E (mat_ev (n := n) (v := fun i j => decide (((sp.getD i 0 : Nat) : Int) + ((wd.getD i 0 : Nat) : Int) < ((sp.getD j 0 : Nat) : Int))) (by omega) (evP_rangeN (ev_var (i := 2) (d := .int n) rfl) (by omega)) (fun i hi => evP_rangeN (ev_var (i := 2) (d := .int n) rfl) (by omega)) (fun i j hi hj => ev_cmp (ev_add (ix_ev (v := 10) (w := 9) (i := i) rfl rfl (by omega)) (ix_ev (v := 11) (w := 9) (i := i) rfl rfl (by omega))) (ix_ev (v := 10) (w := 8) (i := j) rfl rfl (by omega)) fun R z => cmp_lt z)) (ret0 (X := X) (fin _ M6 (.of_lt (f := fun i => sp.getD i 0) (fun i j k hi hj hk p q => by
        simp only [Bool.and_eq_true, decide_eq_true_eq] at p q ⊢
        omega) fun i j hi hj p => by
        simp only [Bool.and_eq_true, decide_eq_true_eq] at p
        omega) hM6))
      · refine if_ev (kt 3 _ _ rfl) (fun _ => ?_) (fun _ => ?_)
        · refine asg2_sem (draws_sem (n := n) (k := 9) f1 (evP_rangeN (ev_var (i := 2) (d := .int n) rfl) (by omega)) (by rw [List.length_map, List.length_range]) (by omega) (fun _ => rfl) (by omega) (by omega) Mu.set_same hM4 fun sp M5 l5 hM5 => ?_)
          rw [Mu.set_set]
          refine bin_sem (ev_int _ _ (draw_sem (m := 4) f1 (ev_var rfl) ev_int (by omega) (by omega) Mu.set_same hM5 fun k4 M6 _ hM6 => ?_))
          rw [Mu.set_set]
          exact ret_E (mat_ev (n := n) (v := fun i j => decide (((sp.getD i 0 : Nat) : Int) + (1 + (k4 : Nat)) ≤ ((sp.getD j 0 : Nat) : Int))) (by omega) (evP_rangeN (ev_var (i := 2) (d := .int n) rfl) (by omega)) (fun i hi => evP_rangeN (ev_var (i := 2) (d := .int n) rfl) (by omega)) (fun i j hi hj => ev_cmp (o := .le) (ev_add (ix_ev (v := 10) (w := 9) (i := i) rfl rfl (by omega)) (ev_var (i := 11) (d := .int (1 + (k4 : Nat))) rfl)) (ix_ev (v := 10) (w := 8) (i := j) rfl rfl (by omega)) fun R z => z)) (ret0 (X := X) (fin _ M6 (.of_lt (f := fun i => sp.getD i 0) (fun i j k hi hj hk p q => by
        simp only [Bool.and_eq_true, decide_eq_true_eq] at p q ⊢
        omega) fun i j hi hj p => by
        simp only [Bool.and_eq_true, decide_eq_true_eq] at p
        omega) hM6))
        · refine if_ev (kt 4 _ _ rfl) (fun _ => ?_) (fun _ => ?_)
          · refine asg_sem (draws_sem (n := n) (k := 4) f1 (evP_rangeN (ev_var (i := 2) (d := .int n) rfl) (by omega)) (by rw [List.length_map, List.length_range]) (by omega) (fun _ => rfl) (by omega) (by omega) Mu.set_same hM4 fun sp M5 l5 hM5 => ?_)
            rw [Mu.set_set]
            exact ret_E (mat_ev (n := n) (v := fun i j => decide (((sp.getD i 0 : Nat) : Int) < ((sp.getD j 0 : Nat) : Int))) (by omega) (evP_rangeN (ev_var (i := 2) (d := .int n) rfl) (by omega)) (fun i hi => evP_rangeN (ev_var (i := 2) (d := .int n) rfl) (by omega)) (fun i j hi hj => ev_cmp (ix_ev (v := 10) (w := 9) (i := i) rfl rfl (by omega)) (ix_ev (v := 10) (w := 8) (i := j) rfl rfl (by omega)) fun R z => ltN z)) (ret0 (X := X) (fin _ M5 (.of_lt (f := fun i => sp.getD i 0) (fun i j k hi hj hk p q => by
        simp only [Bool.and_eq_true, decide_eq_true_eq] at p q ⊢
        omega) fun i j hi hj p => by
        simp only [Bool.and_eq_true, decide_eq_true_eq] at p
        omega) hM5))
          · refine if_ev (kt 5 _ _ rfl) (fun _ => ?_) (fun _ => ?_)
            · refine ret_semE (call_sem f4 (evA_cs (ev_var (d := .ref h) rfl) (evA_cs (ev_var (i := 2) (d := .int n) rfl) evA_nl) _ _ ⟨h, n, M4, rfl, rfl, by omega, Mu.set_same, hM4, fun t M5 so hM5 => ?_⟩))
              rw [Mu.set_set]
              exact ret0 (X := X) (fin t M5 so hM5)
            · refine asg_sem (call_sem f2 (evA_cs (ev_var (d := .ref h) rfl) (evA_cs (ev_rngN (i := 2) (n := n) rfl (by omega)) evA_nl) _ _ ⟨h, _, M4, rfl, rfl, by rw [List.length_map, List.length_range]; omega, Mu.set_same, hM4, fun ds3 M5 pm3 hM5 => ?_⟩))
              rw [Mu.set_set]
              obtain ⟨th, rfl, tl, tb⟩ := perm_nats pm3
              exact ret_E (mat_ev (n := n) (v := fun i j => decide (((fs.getD i 0 : Nat) : Int) < (fs.getD j 0 : Nat)) && (decide (((ss.getD i 0 : Nat) : Int) < (ss.getD j 0 : Nat)) && decide (((th.getD i 0 : Nat) : Int) < (th.getD j 0 : Nat)))) (by omega) (evP_rangeN (ev_var (i := 2) (d := .int n) rfl) (by omega)) (fun i hi => evP_rangeN (ev_var (i := 2) (d := .int n) rfl) (by omega)) (fun i j hi hj => ev_and (ev_cmp (ix_ev (v := 4) (w := 9) (i := i) rfl rfl (by omega)) (ix_ev (v := 4) (w := 8) (i := j) rfl rfl (by omega)) fun R z => ltN z) fun _ => ev_and (ev_cmp (ix_ev (v := 5) (w := 9) (i := i) rfl rfl (by omega)) (ix_ev (v := 5) (w := 8) (i := j) rfl rfl (by omega)) fun R z => ltN z) fun _ => ev_cmp (ix_ev (v := 12) (w := 9) (i := i) rfl rfl (by omega)) (ix_ev (v := 12) (w := 8) (i := j) rfl rfl (by omega)) fun R z => ltN z)) (ret0 (X := X) (fin _ M5 (.of_lt (f := fun i => fs.getD i 0) (fun i j k hi hj hk p q => by
        simp only [Bool.and_eq_true, decide_eq_true_eq] at p q ⊢
        omega) fun i j hi hj p => by
        simp only [Bool.and_eq_true, decide_eq_true_eq] at p
        omega) hM5))
def lettersD (ts : List (Nat × Nat)) (t : Nat → Nat → Bool) : D := .tup (ts.map fun p => .str (if t p.1 p.2 then ">" else "<"))
def symB (t : Nat → Nat → Bool) : Nat → Nat → Bool := fun i j => t i j || t j i
def sp_letters : DSp := sp2 fun x y μ R X => ∃ (n : Nat) (ts : List (Nat × Nat)) (t : Nat → Nat → Bool), x = webD n ts ∧ y = matD n t ∧ (∀ p, p ∈ ts → p.1 < n ∧ p.2 < n) ∧ ts.length ≤ 1000 ∧ R (lettersD ts t) μ
theorem m_letters {Φ : Md} : ∀ x y μ R X, (∃ (n : Nat) (ts : List (Nat × Nat)) (t : Nat → Nat → Bool), x = webD n ts ∧ y = matD n t ∧ (∀ p, p ∈ ts → p.1 < n ∧ p.2 < n) ∧ ts.length ≤ 1000 ∧ R (lettersD ts t) μ) → semS Φ i__law_letters (startD 4 [x, y]) μ (dEnd R X) := by
  rintro _ _ μ R X ⟨n, ts, t, rfl, rfl, hts, hl, q⟩
  have e1 := ev_lc (Φ := Φ) (μ := μ) (ρ := startD 4 [webD n ts, matD n t]) (c := .nl) (el := .ite (.idx (.idx (.var 1) (.var 2)) (.var 3)) (.str ">") (.str "<")) (it := .idx (.var 0) (.int 1)) (tg := [2, 3]) (tp := true) (own := [2, 3])
    (f := fun d => match d with
      | .tup [.int i, .int j] => .str (if t i.toNat j.toNat then ">" else "<")
      | _ => .non) (evP_idx (ev_var (d := webD n ts) rfl) ev_int rfl rfl rfl).i (by rw [List.length_map]; unfold lim; omega) (fun d hd R q => by
      obtain ⟨p, hp, rfl⟩ := List.mem_map.mp hd
      obtain ⟨h1, h2⟩ := hts p hp
      obtain ⟨x, y⟩ := p
      refine ⟨[.int x, .int y], rfl, rfl, q _ ?_⟩
      refine ev_ite (p := t x y) (evT_idx (ev_idxN (n := y) (x := rowD n (t x)) (ev_idxN (n := x) (ev_var (d := matD n t) rfl) (ev_var (d := natD x) rfl) rfl rfl (range_at h1)) (ev_var (d := natD y) rfl) rfl rfl (range_at h2))) (fun z => ?_) (fun z => ?_)
      · show ev Φ _ _ μ (.str (if t x y then ">" else "<"))
        rw [z]
        exact ev_str
      · show ev Φ _ _ μ (.str (if t x y then ">" else "<"))
        rw [z]
        exact ev_str)
  rw [List.map_map] at e1
  exact ret_ev (ev_bi (evA_cs e1 evA_nl) fun R z => ⟨_, rfl, z⟩) q
def sp_order : DSp := sp2 fun x y μ R X => ∃ (h : Addr) (m : Nat) (M : MO), x = .ref h ∧ y = .int m ∧ 1 ≤ m ∧ m ≤ 24 ∧ μ h = some M ∧ IsHand M ∧ ∀ n t M', 1 ≤ n → n ≤ m → StrictO n t → IsHand M' → R (.tup [webD n (upTs n (symB t) n), lettersD (upTs n (symB t) n) t, matD n t]) (μ.set h M')
theorem m_order {Φ : Md} (f1 : Φ.fns "_law_order_table" = some sp_otable) (f2 : Φ.fns "_law_web" = some sp_web) (f3 : Φ.fns "_law_letters" = some sp_letters) : ∀ x y μ R X, (∃ (h : Addr) (m : Nat) (M : MO), x = .ref h ∧ y = .int m ∧ 1 ≤ m ∧ m ≤ 24 ∧ μ h = some M ∧ IsHand M ∧ ∀ n t M', 1 ≤ n → n ≤ m → StrictO n t → IsHand M' → R (.tup [webD n (upTs n (symB t) n), lettersD (upTs n (symB t) n) t, matD n t]) (μ.set h M')) → semS Φ i__law_order (startD 7 [x, y]) μ (dEnd R X) := by
  rintro _ _ μ R X ⟨h, m, M, rfl, rfl, hm, hm2, e, hM, q⟩
  refine asg_sem (call_sem f1 (evA_cs (ev_var (d := .ref h) rfl) (evA_cs (ev_var (d := .int m) rfl) evA_nl) _ _ ⟨h, m, M, rfl, rfl, hm, by omega, e, hM, fun n t M1 hn1 hn2 so hM1 => ?_⟩))
  refine asg_ev (len_mat (i := 2) rfl) ?_
  have me := mat_ev (Φ := Φ) (μ := μ.set h M1) (ρ := [some (.ref h), some (.int m), some (matD n t), some (.int n), none, none, none]) (n := n) (ta := 6) (tb := 5) (it1 := .range1 (.var 3)) (it2 := .range1 (.var 3)) (el := .or (.idx (.idx (.var 2) (.var 6)) (.var 5)) (.idx (.idx (.var 2) (.var 5)) (.var 6))) (v := fun i j => t i j || t j i) (by omega) (evP_rangeN (ev_var (i := 3) (d := .int n) rfl) (by omega)) (fun i hi => evP_rangeN (ev_var (i := 3) (d := .int n) rfl) (by omega))
    (fun i j hi hj => ev_or (ev_idxN (n := j) (x := rowD n (t i)) (ev_idxN (n := i) (ev_var (d := matD n t) rfl) (ev_var (d := natD i) rfl) rfl rfl (range_at hi)) (ev_var (d := natD j) rfl) rfl rfl (range_at hj)) fun _ => ev_idxN (n := i) (x := rowD n (t j)) (ev_idxN (n := j) (ev_var (d := matD n t) rfl) (ev_var (d := natD j) rfl) rfl rfl (range_at hj)) (ev_var (d := natD i) rfl) rfl rfl (range_at hi))
  refine asg_sem (call_sem f2 (evA_cs me evA_nl _ _ ⟨n, _, rfl, by omega, ?_⟩))
  have gt : GoodTs n (upTs n (symB t) n) := up_good (by omega)
  show semS Φ _ [some (.ref h), some (.int m), some (matD n t), some (.int n), some (webD n (upTs n (symB t) n)), none, none] _ _
  generalize hts : upTs n (symB t) n = ts at gt
  refine ret_sem (show semA Φ (.cs (.var 4) (.cs (.call "_law_letters" (.cs (.var 4) (.cs (.var 2) .nl))) (.cs (.var 2) .nl))) _ _ (fun ds μ' => (fun d μ1 => ∃ keep n, R (fz μ1 keep n d) (μ1.cut keep)) (.tup ds) μ') _ from cs_sem (ev_var (i := 4) (d := webD n ts) rfl _ _ (cs_sem (call_sem f3 (evA_cs (ev_var (i := 4) (d := webD n ts) rfl) (evA_cs (ev_var (i := 2) (d := matD n t) rfl) evA_nl) _ _ ⟨n, ts, t, rfl, rfl, fun p hp => ⟨by have := gt.b p hp; omega, (gt.b p hp).2⟩, Nat.le_trans gt.l (by decide), ?_⟩)))))
  exact cs_sem (ev_var (i := 2) (d := matD n t) rfl _ _ ⟨fun _ => true, 0, by have := q n t M1 hn1 hn2 so hM1; rw [hts] at this; exact this⟩)
end PL
/-! B9: webs of any kind -/
namespace PL
open PySem PySem.Spec PyProof.Rows L2 PySem.W

def sp_any : DSp := sp2 fun x y μ R X => ∃ (h : Addr) (m : Nat) (M : MO), x = .ref h ∧ y = .int m ∧ 1 ≤ m ∧ m ≤ 24 ∧ μ h = some M ∧ IsHand M ∧ ∀ n ts M', 1 ≤ n → n ≤ m → GoodTs n ts → IsHand M' → R (webD n ts) (μ.set h M')
theorem m_any {Φ : Md} (f1 : Φ.fns "_law_draw" = some sp_draw) (f2 : Φ.fns "_law_web" = some sp_web) (f3 : Φ.fns "_law_random" = some sp_random) (f4 : Φ.fns "_law_nested" = some sp_nested) (f5 : Φ.fns "_law_order" = some sp_order) : ∀ x y μ R X, (∃ (h : Addr) (m : Nat) (M : MO), x = .ref h ∧ y = .int m ∧ 1 ≤ m ∧ m ≤ 24 ∧ μ h = some M ∧ IsHand M ∧ ∀ n ts M', 1 ≤ n → n ≤ m → GoodTs n ts → IsHand M' → R (webD n ts) (μ.set h M')) → semS Φ i__law_any_web (startD 3 [x, y]) μ (dEnd R X) := by
  rintro _ _ μ R X ⟨h, m, M, rfl, rfl, hm, hm2, e, hM, q⟩
  refine asg_sem (draw_sem (m := 3) f1 (ev_var rfl) ev_int (by omega) (by omega) e hM fun kd M1 _ hM1 => ?_)
  have kt : ∀ (j : Int), evT Φ (.cmp .eq (.var 2) (.int j)) [some (.ref h), some (.int m), some (.int (kd : Nat))] (μ.set h M1) (decide ((kd : Int) = j)) := fun j => evT_cmp (ev_var rfl) ev_int fun R z => cmp_eq z
  refine if_ev (kt 0) (fun _ => ?_) (fun _ => ?_)
  · refine ret_semE (call_sem f2 (one_sem (call_sem f3 (cs_sem (ev_var (d := .ref h) rfl _ _ (one_sem (bin_sem (ev_int _ _ (draw_sem (m := m) f1 (ev_var rfl) (ev_var rfl) (by omega) (by omega) Mu.set_same hM1 fun k0 M2 hk0 hM2 => ?_)))))))))
    refine ⟨h, 1 + k0, M2, rfl, by show D.int (1 + (k0 : Nat)) = .int ((1 + k0 : Nat) : Int); rw [show (1 + (k0 : Nat) : Int) = ((1 + k0 : Nat) : Int) by omega], by omega, Mu.set_same, hM2, fun t M3 hM3 => ⟨1 + k0, t, rfl, by omega, ?_⟩⟩
    rw [Mu.set_set, Mu.set_set]
    exact ret0 (X := X) (q _ _ M3 (by omega) (by omega) (up_good (by omega)) hM3)
  · refine if_ev (kt 1) (fun _ => ?_) (fun _ => ?_)
    · refine ret_semE (call_sem f2 (one_sem (call_sem f4 (evA_cs (ev_var (d := .ref h) rfl) (evA_cs (ev_var (d := .int m) rfl) evA_nl) _ _ ⟨h, m, M1, rfl, rfl, hm, by omega, Mu.set_same, hM1, fun n t M3 hn1 hn2 hM3 => ⟨n, t, rfl, by omega, ?_⟩⟩))))
      rw [Mu.set_set]
      exact ret0 (X := X) (q n _ M3 hn1 hn2 (up_good (by omega)) hM3)
    · refine ret_semE (idx_sem (call_sem f5 (evA_cs (ev_var (d := .ref h) rfl) (evA_cs (ev_var (d := .int m) rfl) evA_nl) _ _ ⟨h, m, M1, rfl, rfl, hm, by omega, Mu.set_same, hM1, fun n t M3 hn1 hn2 so hM3 => ?_⟩)))
      rw [Mu.set_set]
      exact ev_int _ _ (.inl ⟨_, 0, _, rfl, rfl, rfl, ret0 (X := X) (q n _ M3 hn1 hn2 (up_good (by omega)) hM3)⟩)
end PL
/-! B1w: good webs, bad webs -/
namespace PL
open PySem PySem.Spec PyProof.Rows L2 PySem.W

theorem ev_list {Φ : Md} {ρ : Rho} {μ : Mu} {a : IE} {x : D} {xs : List D} (h : ev Φ a ρ μ x) (e : items μ x = some xs) : ev Φ (.bi .list false (.cs a .nl)) ρ μ (.lst xs) := ev_bi (evA_cs h evA_nl) fun R z => ⟨xs, e, z⟩
theorem ev_dnew {Φ : Md} {ρ : Rho} {μ : Mu} : ev Φ (.dnew false) ρ μ (.dK []) := fun R X z => z
def BadWeb (d : D) : Prop := okD d = true ∧ webLen d ∧ isWebB d = false
theorem okDs_append : ∀ {xs ys : List D}, okDs (xs ++ ys) = (okDs xs && okDs ys)
  | [], _ => by rw [List.nil_append, okDs, Bool.true_and]
  | x :: xs, ys => by rw [List.cons_append, okDs, okDs, okDs_append, Bool.and_assoc]
theorem okDs_pairs : ∀ ts : List (Nat × Nat), okDs (ts.map pairD) = true
  | [] => rfl
  | p :: ts => by
    rw [List.map_cons, okDs, okDs_pairs ts]
    rfl
theorem tie_pair {n : Nat} {p : Nat × Nat} (h : p.1 < p.2) (h2 : p.2 < n) : isTieB n (pairD p) = true := by
  show (btw (.int p.1) 0 (n - 1) && btw (.int p.2) ((p.1 : Int) + 1) (n - 1)) = true
  show ((decide (0 ≤ (p.1 : Int)) && decide ((p.1 : Int) ≤ n - 1)) && (decide ((p.1 : Int) + 1 ≤ p.2) && decide ((p.2 : Int) ≤ n - 1))) = true
  simp only [Bool.and_eq_true, decide_eq_true_eq]
  omega
theorem lt_pairs (p q : Nat × Nat) : ltD (pairD p) (pairD q) = decide ((p.1 : Int) < q.1 ∨ ((p.1 : Int) = q.1 ∧ (p.2 : Int) < q.2)) := dataLt_ii _ _ _ _
theorem asc_false {xs : List D} {k : Nat} {x y : D} (h1 : xs[k]? = some x) (h2 : xs[k + 1]? = some y) (h : ltD x y = false) : ascP xs = false := by
  unfold ascP
  rw [List.all_eq_false]
  have hl : k + 1 < xs.length := (List.getElem?_eq_some_iff.mp h2).1
  refine ⟨k, List.mem_range.mpr (by omega), ?_⟩
  rw [List.getD_eq_getElem?_getD, List.getD_eq_getElem?_getD, h1, h2]
  show ¬ ltD x y = true
  rw [h]
  exact Bool.false_ne_true
theorem good_web {n : Nat} {ts : List (Nat × Nat)} (h1 : 1 ≤ n) (h2 : n ≤ 24) (g : GoodTs n ts) : isWebB (webD n ts) = true ∧ okD (webD n ts) = true ∧ webLen (webD n ts) := by
  refine ⟨?_, ?_, ?_⟩
  · show (btw (.int n) 1 24 && ((ts.map pairD).all (isTieB n) && ascP (ts.map pairD))) = true
    have a1 : btw (.int n) 1 24 = true := by
      show (decide ((1 : Int) ≤ n) && decide ((n : Int) ≤ 24)) = true
      simp only [Bool.and_eq_true, decide_eq_true_eq]
      omega
    have a2 : (ts.map pairD).all (isTieB n) = true := by
      rw [List.all_map, List.all_eq_true]
      exact fun p hp => tie_pair (g.b p hp).1 (g.b p hp).2
    have a3 : ascP (ts.map pairD) = true := by
      unfold ascP
      rw [List.all_eq_true]
      intro k hk
      rw [List.mem_range, List.length_map] at hk
      have hk1 : k < ts.length := by omega
      have hk2 : k + 1 < ts.length := by omega
      rw [List.getD_eq_getElem?_getD, List.getD_eq_getElem?_getD, List.getElem?_map, List.getElem?_map, List.getElem?_eq_getElem hk1, List.getElem?_eq_getElem hk2]
      show ltD (pairD ts[k]) (pairD ts[k + 1]) = true
      rw [lt_pairs, decide_eq_true_eq]
      have := List.pairwise_iff_getElem.mp g.s k (k + 1) hk1 hk2 (by omega)
      unfold lexN at this
      omega
    rw [a1, a2, a3] <;> rfl
  · show okDs [.int n, .tup (ts.map pairD)] = true
    show (okD (.int n) && (okDs (ts.map pairD) && true)) = true
    rw [okDs_pairs] <;> rfl
  · show (ts.map pairD).length ≤ 900000
    rw [List.length_map]
    exact Nat.le_trans g.l (by decide)
/-- n ties, one of them no tie -/
theorem bad_tie {n : Nat} {ds : List D} (hl : ds.length ≤ 900000) (ho : okDs ds = true) (h : ds.all (isTieB n) = false ∨ ascP ds = false) : BadWeb (.tup [.int n, .tup ds]) := by
  refine ⟨?_, hl, ?_⟩
  · show (okD (.int n) && (okDs ds && true)) = true
    rw [ho] <;> rfl
  · show (btw (.int n) 1 24 && (ds.all (isTieB n) && ascP ds)) = false
    rcases h with h | h
    · rw [h, Bool.false_and, Bool.and_false]
    · rw [h, Bool.and_false, Bool.and_false]
theorem all_bad {n : Nat} {ds : List D} {d : D} (h : d ∈ ds) (hb : isTieB n d = false) : ds.all (isTieB n) = false := by
  rw [List.all_eq_false]
  exact ⟨d, h, by rw [hb]; exact Bool.false_ne_true⟩
end PL
/-! B10: no web -/
namespace PL
open PySem PySem.Spec PyProof.Rows L2 PySem.W

def sp_no_web : DSp := sp2 fun x y μ R X => ∃ (h : Addr) (n : Nat) (ts : List (Nat × Nat)) (M : MO), x = .ref h ∧ y = webD n ts ∧ 1 ≤ n ∧ n ≤ 24 ∧ GoodTs n ts ∧ μ h = some M ∧ IsHand M ∧ ∀ d M', BadWeb d → IsHand M' → R d (μ.set h M')
theorem m_no_web {Φ : Md} (f : Φ.fns "_law_some" = some sp_some) : ∀ x y μ R X, (∃ (h : Addr) (n : Nat) (ts : List (Nat × Nat)) (M : MO), x = .ref h ∧ y = webD n ts ∧ 1 ≤ n ∧ n ≤ 24 ∧ GoodTs n ts ∧ μ h = some M ∧ IsHand M ∧ ∀ d M', BadWeb d → IsHand M' → R d (μ.set h M')) → semS Φ i__law_no_web (startD 5 [x, y]) μ (dEnd R X) := by
  rintro _ _ μ R X ⟨h, n, ts, M, rfl, rfl, hn1, hn2, g, e, hM, q⟩
  refine unp_ev (ds := [.int n, .tup (ts.map pairD)]) (ev_var rfl) rfl ?_
  show semS Φ (.sq _ _) [some (.ref h), some (webD n ts), some (.int n), some (.tup (ts.map pairD)), none] μ _
  have gl : (ts.map pairD).length ≤ 600 := by rw [List.length_map]; exact g.l
  have ok0 := okDs_pairs ts
  generalize hT : ts.map pairD = T at gl ok0
  have v2 : ∀ o, ev Φ (.var 2) [some (.ref h), some (webD n ts), some (.int n), some (.tup T), o] μ (.int n) := fun o => ev_var rfl
  have v3 : ∀ o, ev Φ (.var 3) [some (.ref h), some (webD n ts), some (.int n), some (.tup T), o] μ (.tup T) := fun o => ev_var rfl
  have c0 : ev Φ (.tup .nl) [some (.ref h), some (webD n ts), some (.int n), some (.tup T), none] μ (.tup []) := ev_tup evA_nl
  -- the first things
  refine asg_ev (d := .lst [.tup [.int 0, .tup []], .tup [.int 25, .tup []], .tup [.bl true, .tup []], .tup [.non, .tup []], .tup [.str "3", .tup []], .tup [.int (-1), .tup []], .tup [.int n, .non], .tup [.int n, .lst T], .lst [.int n, .tup T], .tup [.int n], .tup [.int n, .tup T, .int 0]])
    (ev_lst (evA_cs (ev_const rfl) (evA_cs (ev_const rfl) (evA_cs (ev_const rfl) (evA_cs (ev_const rfl) (evA_cs (ev_const rfl) (evA_cs (ev_tup (evA_cs (ev_neg ev_int) (evA_cs c0 evA_nl))) (evA_cs (ev_tup (evA_cs (v2 _) (evA_cs ev_non evA_nl))) (evA_cs (ev_tup (evA_cs (v2 _) (evA_cs (ev_bi (evA_cs (v3 _) evA_nl) fun R z => ⟨T, rfl, z⟩) evA_nl)))
      (evA_cs (ev_lst (evA_cs (v2 _) (evA_cs (v3 _) evA_nl))) (evA_cs (ev_tup (evA_cs (v2 _) evA_nl)) (evA_cs (ev_tup (evA_cs (v2 _) (evA_cs (v3 _) (evA_cs ev_int evA_nl)))) evA_nl)))))))))))) ?_
  have b1 : ∀ d, d ∈ [D.tup [.int 0, .tup []], .tup [.int 25, .tup []], .tup [.bl true, .tup []], .tup [.non, .tup []], .tup [.str "3", .tup []], .tup [.int (-1), .tup []], .tup [.int n, .non], .tup [.int n, .lst T], .lst [.int n, .tup T], .tup [.int n], .tup [.int n, .tup T, .int 0]] → BadWeb d := by
    intro d hd
    simp only [List.mem_cons, List.not_mem_nil, or_false] at hd
    rcases hd with rfl | rfl | rfl | rfl | rfl | rfl | rfl | rfl | rfl | rfl | rfl
    · exact ⟨rfl, Nat.zero_le _, rfl⟩
    · exact ⟨rfl, Nat.zero_le _, rfl⟩
    · exact ⟨rfl, Nat.zero_le _, rfl⟩
    · exact ⟨rfl, Nat.zero_le _, rfl⟩
    · exact ⟨rfl, Nat.zero_le _, rfl⟩
    · exact ⟨rfl, Nat.zero_le _, rfl⟩
    · exact ⟨rfl, trivial, by show (btw (.int n) 1 24 && false) = false; rw [Bool.and_false]⟩
    · exact ⟨by show (okD (.int n) && (okDs T && true)) = true; rw [ok0] <;> rfl, trivial, by show (btw (.int n) 1 24 && false) = false; rw [Bool.and_false]⟩
    · exact ⟨by show (okD (.int n) && (okDs T && true)) = true; rw [ok0] <;> rfl, trivial, rfl⟩
    · exact ⟨rfl, trivial, rfl⟩
    · exact ⟨by show (okD (.int n) && (okDs T && (okD (.int 0) && true))) = true; rw [ok0] <;> rfl, trivial, rfl⟩
  generalize hL1 : [D.tup [.int 0, .tup []], .tup [.int 25, .tup []], .tup [.bl true, .tup []], .tup [.non, .tup []], .tup [.str "3", .tup []], .tup [.int (-1), .tup []], .tup [.int n, .non], .tup [.int n, .lst T], .lst [.int n, .tup T], .tup [.int n], .tup [.int n, .tup T, .int 0]] = L1 at b1
  have l1 : L1.length = 11 := by rw [← hL1] <;> rfl
  -- more things
  refine asg_ev (d := .lst (L1 ++ [.tup [.int n, .tup (T ++ [.tup [.int 0, .int n]])], .tup [.int n, .tup ([.tup [.int 0, .int 0]] ++ T)], .tup [.int n, .tup ([.tup [.int 1, .int 0]] ++ T)], .tup [.int n, .tup (T ++ [.tup [.int (-1), .int 0]])], .non, .str "web", .dK [], .int 7, .tup []]))
    (ev_addL (ev_var (i := 4) (d := .lst L1) rfl) (ev_lst (evA_cs (ev_tup (evA_cs (v2 _) (evA_cs (ev_addT (v3 _) (ev_tup (evA_cs (ev_tup (evA_cs ev_int (evA_cs (v2 _) evA_nl))) evA_nl)) (by show _ + 1 ≤ _; unfold lim; omega)) evA_nl)))
      (evA_cs (ev_tup (evA_cs (v2 _) (evA_cs (ev_addT (ev_const (d := .tup [.tup [.int 0, .int 0]]) rfl) (v3 _) (by show 1 + _ ≤ _; unfold lim; omega)) evA_nl)))
      (evA_cs (ev_tup (evA_cs (v2 _) (evA_cs (ev_addT (ev_const (d := .tup [.tup [.int 1, .int 0]]) rfl) (v3 _) (by show 1 + _ ≤ _; unfold lim; omega)) evA_nl)))
      (evA_cs (ev_tup (evA_cs (v2 _) (evA_cs (ev_addT (v3 _) (ev_tup (evA_cs (ev_tup (evA_cs (ev_neg ev_int) (evA_cs ev_int evA_nl))) evA_nl)) (by show _ + 1 ≤ _; unfold lim; omega)) evA_nl)))
      (evA_cs ev_non (evA_cs ev_str (evA_cs ev_dnew (evA_cs ev_int (evA_cs (ev_tup evA_nl) evA_nl)))))))))) (by rw [l1]; show 11 + 9 ≤ lim; decide)) ?_
  have b2 : ∀ d, d ∈ L1 ++ [D.tup [.int n, .tup (T ++ [.tup [.int 0, .int n]])], .tup [.int n, .tup ([.tup [.int 0, .int 0]] ++ T)], .tup [.int n, .tup ([.tup [.int 1, .int 0]] ++ T)], .tup [.int n, .tup (T ++ [.tup [.int (-1), .int 0]])], .non, .str "web", .dK [], .int 7, .tup []] → BadWeb d := by
    intro d hd
    rcases List.mem_append.mp hd with hd | hd
    · exact b1 d hd
    simp only [List.mem_cons, List.not_mem_nil, or_false] at hd
    rcases hd with rfl | rfl | rfl | rfl | rfl | rfl | rfl | rfl | rfl
    · refine bad_tie (by rw [List.length_append]; show _ + 1 ≤ _; omega) (by rw [okDs_append, ok0] <;> rfl) (.inl (all_bad (d := .tup [.int 0, .int n]) (by simp) ?_))
      show ((decide ((0 : Int) ≤ 0) && decide ((0 : Int) ≤ n - 1)) && (decide ((0 : Int) + 1 ≤ n) && decide ((n : Int) ≤ n - 1))) = false
      rw [decide_eq_false (show ¬ ((n : Int) ≤ n - 1) by omega), Bool.and_false, Bool.and_false]
    · refine bad_tie (by rw [List.length_append]; show 1 + _ ≤ _; omega) (by rw [okDs_append, ok0] <;> rfl) (.inl (all_bad (d := .tup [.int 0, .int 0]) (by simp) ?_))
      show ((decide ((0 : Int) ≤ 0) && decide ((0 : Int) ≤ n - 1)) && (decide ((0 : Int) + 1 ≤ 0) && decide ((0 : Int) ≤ n - 1))) = false
      rw [decide_eq_false (show ¬ ((0 : Int) + 1 ≤ 0) by omega), Bool.false_and, Bool.and_false]
    · refine bad_tie (by rw [List.length_append]; show 1 + _ ≤ _; omega) (by rw [okDs_append, ok0] <;> rfl) (.inl (all_bad (d := .tup [.int 1, .int 0]) (by simp) ?_))
      show ((decide ((0 : Int) ≤ 1) && decide ((1 : Int) ≤ n - 1)) && (decide ((1 : Int) + 1 ≤ 0) && decide ((0 : Int) ≤ n - 1))) = false
      rw [decide_eq_false (show ¬ ((1 : Int) + 1 ≤ 0) by omega), Bool.false_and, Bool.and_false]
    · refine bad_tie (by rw [List.length_append]; show _ + 1 ≤ _; omega) (by rw [okDs_append, ok0] <;> rfl) (.inl (all_bad (d := .tup [.int (-1), .int 0]) (by simp) ?_))
      show ((decide ((0 : Int) ≤ -1) && decide ((-1 : Int) ≤ n - 1)) && (decide ((-1 : Int) + 1 ≤ 0) && decide ((0 : Int) ≤ n - 1))) = false
      rw [decide_eq_false (show ¬ ((0 : Int) ≤ -1) by omega), Bool.false_and, Bool.false_and]
    · exact ⟨rfl, trivial, rfl⟩
    · exact ⟨rfl, trivial, rfl⟩
    · exact ⟨rfl, trivial, rfl⟩
    · exact ⟨rfl, trivial, rfl⟩
    · exact ⟨rfl, trivial, rfl⟩
  generalize hL2 : L1 ++ [D.tup [.int n, .tup (T ++ [.tup [.int 0, .int n]])], .tup [.int n, .tup ([.tup [.int 0, .int 0]] ++ T)], .tup [.int n, .tup ([.tup [.int 1, .int 0]] ++ T)], .tup [.int n, .tup (T ++ [.tup [.int (-1), .int 0]])], .non, .str "web", .dK [], .int 7, .tup []] = L2 at b2
  have l2 : L2.length = 20 := by rw [← hL2, List.length_append, l1] <;> rfl
  -- one of them
  have fin : ∀ L : List D, 0 < L.length → L.length ≤ 100 → (∀ d, d ∈ L → BadWeb d) → semS Φ (.sq (.ret (.call "_law_some" (.cs (.var 0) (.cs (.var 4) .nl)))) .nop) [some (.ref h), some (webD n ts), some (.int n), some (.tup T), some (.lst L)] μ (dEnd R X) := fun L h0 h1 hb =>
    ret_sem (call_sem f (evA_cs (ev_var (d := .ref h) rfl) (evA_cs (ev_var (i := 4) (d := .lst L) rfl) evA_nl) _ _ ⟨h, L, M, rfl, rfl, h0, by omega, e, hM, fun d M' hd hM' => ⟨fun _ => true, 0, q d M' (hb d hd) hM'⟩⟩))
  have el : ev Φ (.bi .len false (.cs (.var 3) .nl)) [some (.ref h), some (webD n ts), some (.int n), some (.tup T), some (.lst L2)] μ (.int (T.length : Nat)) := ev_len (v3 _) rfl
  show semS Φ (.sq (.ite _ _ _) _) [some (.ref h), some (webD n ts), some (.int n), some (.tup T), some (.lst L2)] μ _
  refine if_ev (evT_cmp el ev_int fun R z => cmp_gt z) (fun z => ?_) (fun _ => fin L2 (by omega) (by omega) b2)
  have hT0 : 0 < T.length := by
    have := of_decide_eq_true z
    omega
  obtain ⟨t0, tr, hts⟩ : ∃ t0 tr, ts = t0 :: tr := by
    cases ts with
    | nil => rw [← hT] at hT0; cases hT0
    | cons a b => exact ⟨a, b, rfl⟩
  have hT1 : T = pairD t0 :: tr.map pairD := by rw [← hT, hts] <;> rfl
  have s1 : ∀ o, ev Φ (.slice false (.var 3) .nl (.int 1)) [some (.ref h), some (webD n ts), some (.int n), some (.tup T), o] μ (.tup [pairD t0]) := fun o => ev_slice (v3 o) evO_nl (fun R X z => z) fun R z => by
    show R (.tup (cutD T none (some ((1 : Nat) : Int)))) μ
    rw [cut_take, hT1]
    exact z
  have s2 : ∀ o, ev Φ (.slice false (.var 3) (.int 1) .nl) [some (.ref h), some (webD n ts), some (.int n), some (.tup T), o] μ (.tup (tr.map pairD)) := fun o => ev_slice (v3 o) (fun R X z => z) evO_nl fun R z => by
    show R (.tup (cutD T (some ((1 : Nat) : Int)) none)) μ
    rw [cut_drop, hT1]
    exact z
  have i0 : ∀ o, ev Φ (.idx (.var 3) (.int 0)) [some (.ref h), some (webD n ts), some (.int n), some (.tup T), o] μ (pairD t0) := fun o => ev_idxN (n := 0) (v3 o) ev_int rfl rfl (by rw [hT1] <;> rfl)
  have okr : okDs (tr.map pairD) = true := okDs_pairs tr
  have trl : (tr.map pairD).length ≤ 600 := by
    rw [hT1, List.length_cons] at gl
    omega
  refine asg_ev (d := .lst (L2 ++ [.tup [.int n, .tup (T ++ [pairD t0])], .tup [.int n, .tup ([pairD t0] ++ T)], .tup [.int n, .tup ([.lst [.int t0.1, .int t0.2]] ++ tr.map pairD)], .tup [.int n, .tup ([.tup ([.int t0.1, .int t0.2] ++ [.int 0])] ++ tr.map pairD)]]))
    (ev_addL (ev_var (i := 4) (d := .lst L2) rfl) (ev_lst (evA_cs (ev_tup (evA_cs (v2 _) (evA_cs (ev_addT (v3 _) (s1 _) (by show _ + 1 ≤ _; unfold lim; omega)) evA_nl))) (evA_cs (ev_tup (evA_cs (v2 _) (evA_cs (ev_addT (s1 _) (v3 _) (by show 1 + _ ≤ _; unfold lim; omega)) evA_nl)))
      (evA_cs (ev_tup (evA_cs (v2 _) (evA_cs (ev_addT (ev_tup (evA_cs (ev_list (xs := [.int t0.1, .int t0.2]) (i0 _) rfl) evA_nl)) (s2 _) (by show 1 + _ ≤ _; unfold lim; omega)) evA_nl)))
      (evA_cs (ev_tup (evA_cs (v2 _) (evA_cs (ev_addT (ev_tup (evA_cs (ev_addT (xs := [.int t0.1, .int t0.2]) (i0 _) (ev_tup (evA_cs ev_int evA_nl)) (by show 2 + 1 ≤ lim; decide)) evA_nl)) (s2 _) (by show 1 + _ ≤ _; unfold lim; omega)) evA_nl))) evA_nl))))) (by rw [l2]; show 20 + 4 ≤ lim; decide)) ?_
  refine fin _ (by rw [List.length_append]; omega) (by rw [List.length_append, l2]; show 20 + 4 ≤ 100; decide) fun d hd => ?_
  rcases List.mem_append.mp hd with hd | hd
  · exact b2 d hd
  simp only [List.mem_cons, List.not_mem_nil, or_false] at hd
  have self : ltD (pairD t0) (pairD t0) = false := by
    rw [lt_pairs, decide_eq_false_iff_not]
    omega
  rcases hd with rfl | rfl | rfl | rfl
  · refine bad_tie (by rw [List.length_append]; show _ + 1 ≤ _; omega) (by rw [okDs_append, ok0] <;> rfl) (.inr ?_)
    have hlast : T.length - 1 < ts.length := by rw [← hT, List.length_map] at hT0 ⊢; omega
    refine asc_false (k := T.length - 1) (x := pairD (ts[T.length - 1])) (y := pairD t0) ?_ ?_ ?_
    · rw [List.getElem?_append_left (by omega)]
      conv => lhs; rw [← hT]
      rw [List.getElem?_map, hT, List.getElem?_eq_getElem hlast] <;> rfl
    · rw [show T.length - 1 + 1 = T.length by omega, List.getElem?_append_right (Nat.le_refl _), Nat.sub_self] <;> rfl
    · rw [lt_pairs, decide_eq_false_iff_not]
      by_cases z0 : T.length - 1 = 0
      · have : ts[T.length - 1] = t0 := by
          have h2 : ts[T.length - 1]? = some t0 := by rw [z0, hts] <;> rfl
          rw [List.getElem?_eq_getElem hlast] at h2
          exact Option.some.inj h2
        rw [this]
        omega
      · have h0 : 0 < ts.length := by omega
        have := List.pairwise_iff_getElem.mp g.s 0 (T.length - 1) h0 hlast (by omega)
        have e0 : ts[0] = t0 := by
          have h2 : ts[0]? = some t0 := by rw [hts] <;> rfl
          rw [List.getElem?_eq_getElem h0] at h2
          exact Option.some.inj h2
        rw [e0] at this
        unfold lexN at this
        omega
  · refine bad_tie (by rw [List.length_append]; show 1 + _ ≤ _; omega) (by rw [okDs_append, ok0] <;> rfl) (.inr (asc_false (k := 0) (x := pairD t0) (y := pairD t0) rfl (by rw [hT1] <;> rfl) self))
  · exact bad_tie (by rw [List.length_append]; show 1 + _ ≤ _; omega) (by rw [okDs_append, okr] <;> rfl) (.inl rfl)
  · exact bad_tie (by rw [List.length_append]; show 1 + _ ≤ _; omega) (by rw [okDs_append, okr] <;> rfl) (.inl rfl)
end PL
/-! C1: rows of words as text. -/
namespace PL
open PySem PySem.Spec PyProof.Rows L2 PySem.W

def wS : D → Str
  | .int i => toString i
  | .str s => s
  | _ => ""
def rowJ (ws : List D) : Str := Txt.join " " (ws.map wS)
def linedS (rows : List (List D)) : Str := Txt.join "" (rows.map fun r => rowJ r ++ "\n")
def WdOk (w : D) : Prop := (∃ n : Nat, w = natD n ∧ n ≤ 1000) ∨ ∃ s : Str, w = .str s ∧ s.length ≤ 10
def RowsOk (rows : List (List D)) : Prop := rows.length ≤ 1000 ∧ ∀ r, r ∈ rows → r.length ≤ 10 ∧ ∀ w, w ∈ r → WdOk w
theorem tl_num (n : Nat) : TL.tl (wS (natD n)) = TL.numL n := TL.tl_num n
theorem wS_len {w : D} (h : WdOk w) : (wS w).length ≤ 10 := by
  rcases h with ⟨n, rfl, h⟩ | ⟨s, rfl, h⟩
  · rw [TL.len_tl, tl_num]
    exact Nat.le_trans (TL.numL_len (k := 4) (by decide) (by omega)) (by decide)
  · exact h
theorem joinL_len (S : List Nat) : ∀ ps : List (List Nat), (TL.joinL S ps).length ≤ (ps.map List.length).sum + ps.length * S.length
  | [] => by simp [TL.joinL]
  | [p] => by simp [TL.joinL]
  | p :: q :: r => by
    have := joinL_len S (q :: r)
    show (p ++ (S ++ TL.joinL S (q :: r))).length ≤ _
    rw [List.length_append, List.length_append, List.map_cons, List.sum_cons, List.length_cons, Nat.succ_mul]
    omega
theorem join_len (y : Str) (ps : List Str) : (Txt.join y ps).length ≤ (ps.map (·.length)).sum + ps.length * y.length := by
  rw [TL.len_tl, TL.join_eq, TL.tl_join, TL.len_tl]
  have := joinL_len (TL.tl y) (ps.map TL.tl)
  rw [List.map_map, List.length_map] at this
  have e : (ps.map (List.length ∘ TL.tl)) = ps.map (·.length) := List.map_congr_left fun x _ => (TL.len_tl x).symm
  rw [e] at this
  exact this
theorem sum_le {α : Type} {f : α → Nat} {m : Nat} : ∀ {xs : List α}, (∀ x, x ∈ xs → f x ≤ m) → (xs.map f).sum ≤ xs.length * m
  | [], _ => by simp
  | x :: xs, h => by
    have h1 := h x List.mem_cons_self
    have h2 := sum_le (xs := xs) fun y hy => h y (List.mem_cons_of_mem _ hy)
    rw [List.map_cons, List.sum_cons, List.length_cons, Nat.succ_mul]
    omega
theorem row_sum {r : List D} (h : r.length ≤ 10 ∧ ∀ w, w ∈ r → WdOk w) : ((r.map wS).map (·.length)).sum ≤ 100 := by
  rw [List.map_map]
  have := sum_le (f := (fun x : Str => x.length) ∘ wS) (m := 10) (xs := r) fun w hw => wS_len (h.2 w hw)
  omega
theorem rowJ_len {r : List D} (h : r.length ≤ 10 ∧ ∀ w, w ∈ r → WdOk w) : (rowJ r).length ≤ 110 := by
  have h1 := join_len " " (r.map wS)
  have h2 := row_sum h
  rw [List.length_map, show (" " : Str).length = 1 from rfl] at h1
  unfold rowJ
  omega
theorem str_app_len (x y : Str) : (x ++ y).length = x.length + y.length := by
  rw [TL.len_tl, TL.tl_append, List.length_append, ← TL.len_tl, ← TL.len_tl]
theorem line_len {r : List D} (h : r.length ≤ 10 ∧ ∀ w, w ∈ r → WdOk w) : (rowJ r ++ "\n").length ≤ 111 := by
  rw [str_app_len]
  have := rowJ_len h
  rw [show ("\n" : Str).length = 1 from rfl]
  omega
theorem lined_len {rows : List (List D)} (h : RowsOk rows) : (linedS rows).length ≤ rows.length * 111 := by
  have h1 := join_len "" (rows.map fun r => rowJ r ++ "\n")
  rw [List.length_map, show ("" : Str).length = 0 from rfl, Nat.mul_zero, Nat.add_zero, List.map_map] at h1
  have h2 := sum_le (f := (fun x : Str => x.length) ∘ fun r => rowJ r ++ "\n") (m := 111) (xs := rows) fun r hr => line_len (h.2 r hr)
  unfold linedS
  omega
theorem ev_strw {Φ : Md} {ρ : Rho} {μ : Mu} {a : IE} {w : D} (h : ev Φ a ρ μ w) (hw : WdOk w) : ev Φ (.bi .str false (.cs a .nl)) ρ μ (.str (wS w)) := by
  rcases hw with ⟨n, rfl, hn⟩ | ⟨s, rfl, hs⟩
  · refine ev_bi (evA_cs h evA_nl) fun R z => ⟨?_, z⟩
    rw [Int.natAbs_natCast]
    have : n.log2 ≤ n := Nat.log2_le_self n
    omega
  · exact ev_bi (evA_cs h evA_nl) fun R z => z
def sp_lined : DSp := sp1 fun x μ R X => ∃ rows : List (List D), src0 μ x = some (rows.map D.tup) ∧ RowsOk rows ∧ R (.str (linedS rows)) μ
theorem lined_ok {Φ : Md} : ∀ x μ R X, (∃ rows : List (List D), src0 μ x = some (rows.map D.tup) ∧ RowsOk rows ∧ R (.str (linedS rows)) μ) → semS Φ i_lined (startD 3 [x]) μ (dEnd R X) := by
  rintro x μ R X ⟨rows, hx, ok, q⟩
  have e1 := ev_lc (Φ := Φ) (μ := μ) (ρ := startD 3 [x]) (c := .nl) (el := .bin .add false (.join (.str " ") (.lc false (.bi .str false (.cs (.var 1) .nl)) [1] false (.var 2) false .nl [1])) (.str "\n")) (it := .var 0) (tg := [2]) (tp := false) (own := [2]) (f := fun d => match d with
    | .tup r => .str (rowJ r ++ "\n")
    | _ => .non) (evI_var (i := 0) (x := x) rfl hx) (by rw [List.length_map]; have := ok.1; unfold lim; omega) (fun d hd R q => by
      obtain ⟨r, hr, rfl⟩ := List.mem_map.mp hd
      have okr := ok.2 r hr
      refine q _ ?_
      have e2 := ev_lc (Φ := Φ) (μ := μ) (ρ := [some x, none, some (.tup r)]) (c := .nl) (el := .bi .str false (.cs (.var 1) .nl)) (it := .var 2) (tg := [1]) (tp := false) (own := [1]) (f := fun w => .str (wS w)) (evP_var (x := .tup r) rfl rfl).i (by have := okr.1; unfold lim; omega) (fun w hw R q => q _ (ev_strw (ev_var (i := 1) (d := w) rfl) (okr.2 w hw)))
      have e3 : r.map (fun w => D.str (wS w)) = (r.map wS).map D.str := by rw [List.map_map] <;> rfl
      rw [e3] at e2
      refine ev_adds (ev_join ev_str e2 rfl ?_) ev_str ?_
      · have := row_sum okr
        rw [List.length_map, show (" " : Str).length = 1 from rfl]
        have := okr.1
        unfold lim
        omega
      · have := rowJ_len okr
        rw [show ("\n" : Str).length = 1 from rfl]
        show (rowJ r).length + 1 ≤ _
        unfold lim
        omega)
  have e4 : (rows.map D.tup).map (fun d => match d with
    | .tup r => D.str (rowJ r ++ "\n")
    | _ => .non) = (rows.map fun r => rowJ r ++ "\n").map D.str := by rw [List.map_map, List.map_map] <;> rfl
  rw [e4] at e1
  refine ret_ev (ev_join ev_str e1 rfl ?_) q
  rw [show ("" : Str).length = 0 from rfl, Nat.mul_zero, Nat.add_zero, List.map_map]
  have := sum_le (f := (fun x : Str => x.length) ∘ fun r => rowJ r ++ "\n") (m := 111) (xs := rows) fun r hr => line_len (ok.2 r hr)
  have := ok.1
  unfold lim
  omega
theorem m_lined {Φ : Md} : ∀ x μ R X, (∃ rows : List (List D), src0 μ x = some (rows.map D.tup) ∧ RowsOk rows ∧ R (.str (linedS rows)) μ) → semS Φ i_lined (startD 3 [x]) μ (dEnd R X) := lined_ok
theorem m_law_lined {Φ : Md} : ∀ x μ R X, (∃ rows : List (List D), src0 μ x = some (rows.map D.tup) ∧ RowsOk rows ∧ R (.str (linedS rows)) μ) → semS Φ i__law_lined (startD 3 [x]) μ (dEnd R X) := lined_ok
end PL
/-! C2: numbers, pairs of a line. -/
namespace PL
open PySem PySem.Spec PyProof.Rows L2 PySem.W

def digL : List Nat := [48, 49, 50, 51, 52, 53, 54, 55, 56, 57]
def numOf (w : Str) : Option Nat := match decide (1 ≤ w.length) && decide (w.length ≤ 4) && (TL.tl w).all (fun c => decide (c ∈ digL)) && (decide (w = "0") || !decide ((TL.tl w).head? = some 48)) with
  | true => some (NumText.digitsVal (TL.tl w))
  | false => none
def numD (w : Str) : D := match numOf w with
  | some n => natD n
  | none => .non
theorem dig_mem {c : Nat} (h : c ∈ digL) : 48 ≤ c ∧ c ≤ 57 := by
  unfold digL at h
  simp only [List.mem_cons, List.not_mem_nil, or_false] at h
  omega
theorem dig_of {c : Nat} (h : 48 ≤ c ∧ c ≤ 57) : c ∈ digL := by
  unfold digL
  simp only [List.mem_cons, List.not_mem_nil, or_false]
  omega
theorem signs_ev {Φ : Md} {ρ : Rho} {μ : Mu} {w z : Str} {b : IE} (h0 : ρ = [some (.str w), none]) (hb : ∀ o, ev Φ b [some (.str w), o] μ (.str z)) (hl : w.length ≤ lim) :
    ev Φ (.bi .all false (.cs (.lc false (.cmp .isin (.var 1) b) [1] false (.var 0) false .nl [1]) .nl)) ρ μ (.bl ((TL.tl w).all fun c => decide (c ∈ TL.tl z))) := by
  subst h0
  have e1 := ev_lc (Φ := Φ) (μ := μ) (ρ := [some (.str w), none]) (c := .nl) (el := .cmp .isin (.var 1) b) (it := .var 0) (tg := [1]) (tp := false) (own := [1]) (f := fun d => match d with
    | .str ⟨⟨c :: _⟩⟩ => .bl (decide (c ∈ TL.tl z))
    | _ => .non) (evP_var (x := .str w) rfl rfl).i (by rw [List.length_map]; have : w.cps.toList.length = w.length := Array.length_toList; omega) (fun d hd R q => by
      obtain ⟨c, hc, rfl⟩ := List.mem_map.mp hd
      exact q _ (ev_cmp (ev_var (i := 1) (d := .str ⟨#[c]⟩) rfl) (hb _) fun R z' => .inr (.inr ⟨c, z, rfl, rfl, z'⟩)))
  have e2 : (w.cps.toList.map fun c => D.str ⟨#[c]⟩).map (fun d => match d with
    | .str ⟨⟨c :: _⟩⟩ => .bl (decide (c ∈ TL.tl z))
    | _ => .non) = ((TL.tl w).map fun c => decide (c ∈ TL.tl z)).map D.bl := by rw [List.map_map, List.map_map] <;> rfl
  rw [e2] at e1
  have e3 := ev_all (m := false) e1
  rw [List.all_map] at e3
  exact e3
theorem evT_of {Φ : Md} {ρ : Rho} {μ : Mu} {w z : Str} {b : IE} {p : Bool} (h : ∀ R X, semE Φ (.bi .all false (.cs b .nl)) ρ μ R X = semA Φ (.cs b .nl) ρ μ (fun ds μ1 => opBi .all false ds μ1 R) X) (e : ev Φ (.bi .all false (.cs b .nl)) ρ μ (.bl p)) : evT Φ (.bi .all false (.cs b .nl)) ρ μ p := fun R X q => e (fun x μ2 => truth x μ2 fun k => R k μ2) X q
theorem ev_lens {Φ : Md} {ρ : Rho} {μ : Mu} {a : IE} {m : Bool} {w : Str} (h : ev Φ a ρ μ (.str w)) (hl : w.length ≤ lim) : ev Φ (.bi .len m (.cs a .nl)) ρ μ (.int w.length) := ev_bi (evA_cs h evA_nl) fun R z => .inr (.inr ⟨w, rfl, hl, z⟩)
/-- a sign as a text -/
def sgS (c : Nat) : Str := ⟨#[c]⟩
theorem sg_eq {c d : Nat} : sgS c = sgS d ↔ c = d := ⟨fun h => by have := congrArg TL.tl h; exact (List.cons.inj this).1, fun h => by rw [h]⟩
theorem ev_sign {Φ : Md} {ρ : Rho} {μ : Mu} {a b : IE} {w : Str} {i : Int} {c : Nat} (h : ev Φ a ρ μ (.str w)) (k : ev Φ b ρ μ (.int i)) (hl : w.length ≤ lim) (q : atI (TL.tl w) i = some c) : ev Φ (.idx a b) ρ μ (.str (sgS c)) := fun R X z => h _ _ (k _ _ (.inr (.inr ⟨w, i, c, rfl, rfl, hl, q, z⟩)))
theorem atI_zero {α : Type} {c : α} {r : List α} : atI (c :: r) 0 = some c := by
  unfold atI ixN
  rw [if_pos (by decide), if_pos (by simp)] <;> rfl
theorem zero_S : ("0" : Str) = sgS 48 := rfl
/-- what stands behind the look at the signs -/
theorem num_end {Φ : Md} {μ : Mu} {w : Str} {R : RD} {X : RX} (h1 : 1 ≤ w.length) (h4 : w.length ≤ 4) (ha : ((TL.tl w).all fun c => decide (c ∈ digL)) = true) (q : R (numD w) μ) :
    semS Φ (.sq (.ret (.ite (.or (.cmp .eq (.var 0) (.str "0")) (.cmp .ne (.idx (.var 0) (.int 0)) (.str "0"))) (.bi .int false (.cs (.var 0) .nl)) .non)) .nop) [some (.str w), none] μ (dEnd R X) := by
  have hl : w.length ≤ lim := by unfold lim; omega
  have v0 : ev Φ (.var 0) [some (.str w), none] μ (.str w) := ev_var rfl
  obtain ⟨c, r, hw⟩ : ∃ c r, TL.tl w = c :: r := by
    cases e : TL.tl w with
    | nil => rw [TL.len_tl, e] at h1; cases h1
    | cons c r => exact ⟨c, r, rfl⟩
  have c1 : evT Φ (.cmp .eq (.var 0) (.str "0")) [some (.str w), none] μ (decide (w = "0")) := evT_cmp v0 ev_str fun R z => cmp_eqs z
  have c2 : evT Φ (.cmp .ne (.idx (.var 0) (.int 0)) (.str "0")) [some (.str w), none] μ (!decide (sgS c = sgS 48)) := evT_cmp (ev_sign v0 (ev_int (n := 0)) hl (by rw [hw]; exact atI_zero)) ev_str fun R z => cmp_nes z
  have c3 : (!decide (sgS c = sgS 48)) = !decide ((TL.tl w).head? = some 48) := by
    rw [hw]
    congr 1
    exact decide_eq_decide.mpr (by rw [sg_eq]; simp)
  rw [c3] at c2
  have ad : NumText.AllDigits (TL.tl w) := fun c hc => dig_mem (of_decide_eq_true (List.all_eq_true.mp ha c hc))
  have it : PySem.intText? w = some ((NumText.digitsVal (TL.tl w) : Nat) : Int) := PySem.intText_digits ad (by show TL.tl w ≠ []; rw [hw]; simp) (by omega)
  refine ret_ev (d := numD w) (ev_ite (evT_or c1 fun _ => c2) (fun z => ?_) (fun z => ?_)) q
  · have : numD w = natD (NumText.digitsVal (TL.tl w)) := by
      unfold numD numOf
      rw [decide_eq_true h1, decide_eq_true h4, ha, z] <;> rfl
    rw [this]
    exact ev_bi (evA_cs v0 evA_nl) fun R z => ⟨_, it, by omega, z⟩
  · have : numD w = .non := by
      unfold numD numOf
      rw [z, Bool.and_false] <;> rfl
    rw [this]
    exact ev_non
theorem num_no {w : Str} (h : (decide (1 ≤ w.length) && decide (w.length ≤ 4) && (TL.tl w).all (fun c => decide (c ∈ digL))) = false) : numD w = .non := by
  unfold numD numOf
  rw [h, Bool.false_and] <;> rfl
def sp_num : DSp := sp1 fun x μ R X => ∃ w : Str, x = .str w ∧ w.length ≤ lim ∧ R (numD w) μ
theorem m_number_of {Φ : Md} (t : Φ.txs "DIGITS" = some "0123456789") : ∀ x μ R X, (∃ w : Str, x = .str w ∧ w.length ≤ lim ∧ R (numD w) μ) → semS Φ i_number_of (startD 2 [x]) μ (dEnd R X) := by
  rintro _ μ R X ⟨w, rfl, hl, q⟩
  have v0 : ev Φ (.var 0) (startD 2 [.str w]) μ (.str w) := ev_var rfl
  have e1 : ev Φ (.chain .le .le (.int 1) (.bi .len false (.cs (.var 0) .nl)) (.int 4)) (startD 2 [.str w]) μ (.bl (decide ((1 : Int) ≤ w.length) && decide ((w.length : Int) ≤ 4))) := ev_chain ev_int (ev_lens v0 hl) ev_int (fun R z => cmp_le z) (fun _ R z => cmp_le z)
  have e2 := signs_ev (Φ := Φ) (μ := μ) (b := .globS "DIGITS") (w := w) (z := "0123456789") rfl (fun o => ev_globS t) hl
  have e1' : evT Φ (.chain .le .le (.int 1) (.bi .len false (.cs (.var 0) .nl)) (.int 4)) (startD 2 [.str w]) μ (decide ((1 : Int) ≤ w.length) && decide ((w.length : Int) ≤ 4)) := fun R X z =>
    ev_int _ _ (ev_lens v0 hl _ _ (by
      show opCmp .le (.int 1) (.int w.length) μ _
      show (match decide ((1 : Int) ≤ w.length) with | true => _ | false => _)
      cases h : decide ((1 : Int) ≤ w.length) with
      | true =>
        rw [h, Bool.true_and] at z
        exact ev_int _ _ z
      | false =>
        rw [h] at z
        exact z))
  have e2' : evT Φ (.bi .all false (.cs (.lc false (.cmp .isin (.var 1) (.globS "DIGITS")) [1] false (.var 0) false .nl [1]) .nl)) (startD 2 [.str w]) μ ((TL.tl w).all fun c => decide (c ∈ digL)) := evT_of (w := w) (z := w) (fun _ _ => rfl) e2
  have n1 : decide ((1 : Int) ≤ w.length) = decide (1 ≤ w.length) := decide_eq_decide.mpr (by omega)
  have n4 : decide ((w.length : Int) ≤ 4) = decide (w.length ≤ 4) := decide_eq_decide.mpr (by omega)
  rw [n1, n4] at e1'
  refine if_ev (evT_or (evT_not e1') fun _ => evT_not e2') (fun z => ?_) (fun z => ?_)
  · have : numD w = .non := num_no (by
      cases h1 : (decide (1 ≤ w.length) && decide (w.length ≤ 4)) with
      | false => rfl
      | true => rw [h1] at z; simpa using z)
    rw [this] at q
    exact ret_E ev_non (ret0 (X := X) q)
  · rw [Bool.or_eq_false_iff, Bool.not_eq_false', Bool.not_eq_false', Bool.and_eq_true, decide_eq_true_eq, decide_eq_true_eq] at z
    exact num_end z.1.1 z.1.2 z.2 q
theorem m_law_number_of {Φ : Md} : ∀ x μ R X, (∃ w : Str, x = .str w ∧ w.length ≤ lim ∧ R (numD w) μ) → semS Φ i__law_number_of (startD 2 [x]) μ (dEnd R X) := by
  rintro _ μ R X ⟨w, rfl, hl, q⟩
  have v0 : ev Φ (.var 0) (startD 2 [.str w]) μ (.str w) := ev_var rfl
  have e2 := signs_ev (Φ := Φ) (μ := μ) (b := .str "0123456789") (w := w) (z := "0123456789") rfl (fun o => ev_str) hl
  have e2' : evT Φ (.bi .all false (.cs (.lc false (.cmp .isin (.var 1) (.str "0123456789")) [1] false (.var 0) false .nl [1]) .nl)) (startD 2 [.str w]) μ ((TL.tl w).all fun c => decide (c ∈ digL)) := evT_of (w := w) (z := w) (fun _ _ => rfl) e2
  have e1 : evT Φ (.cmp .lt (.bi .len false (.cs (.var 0) .nl)) (.int 1)) (startD 2 [.str w]) μ (decide ((w.length : Int) < 1)) := evT_cmp (ev_lens v0 hl) ev_int fun R z => cmp_lt z
  have e4 : evT Φ (.cmp .gt (.bi .len false (.cs (.var 0) .nl)) (.int 4)) (startD 2 [.str w]) μ (decide ((4 : Int) < w.length)) := evT_cmp (ev_lens v0 hl) ev_int fun R z => cmp_gt z
  refine if_ev (evT_or e1 fun _ => evT_or e4 fun _ => evT_not e2') (fun z => ?_) (fun z => ?_)
  · have : numD w = .non := num_no (by
      rw [Bool.or_eq_true, Bool.or_eq_true, decide_eq_true_eq, decide_eq_true_eq, Bool.not_eq_true'] at z
      rcases z with z | z | z
      · rw [decide_eq_false (show ¬ 1 ≤ w.length by omega)] <;> rfl
      · rw [decide_eq_false (show ¬ w.length ≤ 4 by omega), Bool.and_false] <;> rfl
      · rw [z, Bool.and_false])
    rw [this] at q
    exact ret_E ev_non (ret0 (X := X) q)
  · rw [Bool.or_eq_false_iff, Bool.or_eq_false_iff, decide_eq_false_iff_not, decide_eq_false_iff_not, Bool.not_eq_false'] at z
    exact num_end (by omega) (by omega) z.2.2 q
end PL
/-! C3: lines cut, pairs in lines. -/
namespace PL
open PySem PySem.Spec PyProof.Rows L2 PySem.W

theorem spl1 (s : Nat) : ∀ (l acc : List Nat), TL.spl [s] 0 acc l ≠ [] ∧ ((TL.spl [s] 0 acc l).map List.length).sum + (TL.spl [s] 0 acc l).length = acc.length + l.length + 1
  | [], acc => by
    rw [TL.spl_nil]
    simp
  | c :: r, acc => by
    by_cases h : c = s
    · subst h
      have hp : TL.pre [c] (c :: r) = true := by simp [TL.pre]
      rw [TL.spl_hit hp]
      obtain ⟨h1, h2⟩ := spl1 c r []
      refine ⟨by simp, ?_⟩
      show (((acc :: TL.spl [c] 0 [] r)).map List.length).sum + (acc :: TL.spl [c] 0 [] r).length = _
      rw [List.map_cons, List.sum_cons, List.length_cons, List.length_cons]
      rw [List.length_nil] at h2
      omega
    · have hp : TL.pre [s] (c :: r) = false := TL.pre_of_head [] r h
      rw [TL.spl_miss hp]
      obtain ⟨h1, h2⟩ := spl1 s r (acc ++ [c])
      refine ⟨h1, ?_⟩
      rw [h2, List.length_append, List.length_cons, List.length_cons, List.length_nil]
      omega
theorem split1 {x y : Str} {s : Nat} (hy : TL.tl y = [s]) (hs : y.cps.all (· < 256) = true) : Txt.split x y ≠ [] ∧ ((Txt.split x y).map (·.length)).sum + (Txt.split x y).length = x.length + 1 := by
  have e := TL.split_spl x y (by rw [hy]; simp) (TL.kind_ok hs)
  rw [hy] at e
  obtain ⟨h1, h2⟩ := spl1 s (TL.tl x) []
  rw [← e] at h1 h2
  refine ⟨fun z => h1 (by rw [z] <;> rfl), ?_⟩
  rw [List.map_map, List.length_map, List.length_nil, ← TL.len_tl] at h2
  have e2 : (Txt.split x y).map (List.length ∘ TL.tl) = (Txt.split x y).map (·.length) := List.map_congr_left fun z _ => (TL.len_tl z).symm
  rw [e2] at h2
  omega
theorem sum_mem {α : Type} {f : α → Nat} : ∀ {xs : List α} {x : α}, x ∈ xs → f x ≤ (xs.map f).sum
  | y :: ys, x, h => by
    rw [List.map_cons, List.sum_cons]
    rcases List.mem_cons.mp h with rfl | h
    · omega
    · have := sum_mem (f := f) h
      omega
def rowsOf (t : Str) : List Str := Txt.split t "\n"
def wordsOf (t : Str) : List Str := Txt.split t " "
theorem rowsOf_ok (t : Str) : rowsOf t ≠ [] ∧ ((rowsOf t).map (·.length)).sum + (rowsOf t).length = t.length + 1 := split1 (s := 10) rfl (by decide +kernel)
theorem wordsOf_ok (t : Str) : wordsOf t ≠ [] ∧ ((wordsOf t).map (·.length)).sum + (wordsOf t).length = t.length + 1 := split1 (s := 32) rfl (by decide +kernel)
theorem rows_len (t : Str) : (rowsOf t).length ≤ t.length + 1 := by have := (rowsOf_ok t).2; omega
theorem words_len (t : Str) : (wordsOf t).length ≤ t.length + 1 := by have := (wordsOf_ok t).2; omega
theorem row_len {t r : Str} (h : r ∈ rowsOf t) : r.length ≤ t.length := by
  have h1 := (rowsOf_ok t).2
  have h2 := sum_mem (f := fun x : Str => x.length) h
  have h3 : 0 < (rowsOf t).length := List.length_pos_of_mem h
  omega
theorem word_len {t r : Str} (h : r ∈ wordsOf t) : r.length ≤ t.length := by
  have h1 := (wordsOf_ok t).2
  have h2 := sum_mem (f := fun x : Str => x.length) h
  have h3 : 0 < (wordsOf t).length := List.length_pos_of_mem h
  omega
/-! ### a line's pair -/
def pairO : List (Option Nat) → Option (Nat × Nat)
  | [some a, some b] => some (a, b)
  | _ => none
def pairOf (line head : Str) : Option (Nat × Nat) := match wordsOf line with
  | [] => none
  | h :: ws => match decide (h = head) with
    | true => pairO (ws.map numOf)
    | false => none
def pairND : Option (Nat × Nat) → D
  | some p => pairD p
  | none => .non
theorem numD_flat (w : Str) : flatD (numD w) = true := by
  unfold numD
  split <;> rfl
theorem numD_non (w : Str) : eqF (numD w) .non = (numOf w).isNone := by
  unfold numD
  split <;> rename_i h <;> rw [h] <;> rfl
/-- the look at the words' numbers -/
theorem nums_ok {ws : List Str} : (!decide (((ws.map numD).length : Int) = 2) || inSeq .non (ws.map numD)) = (pairO (ws.map numOf)).isNone := by
  have hin : inSeq .non (ws.map numD) = ws.any fun w => (numOf w).isNone := by
    unfold inSeq
    rw [List.any_map]
    congr 1
    funext w
    show eqF (numD w) .non = _
    exact numD_non w
  rw [hin, List.length_map]
  match ws with
  | [] => rfl
  | [a] =>
    have : decide ((([a].length : Nat) : Int) = 2) = false := decide_eq_false (by show ¬ (((1 : Nat) : Int) = 2); decide)
    rw [this]
    show true = (pairO [numOf a]).isNone
    cases numOf a <;> rfl
  | [a, b] =>
    show (!decide ((2 : Int) = 2) || ((numOf a).isNone || ((numOf b).isNone || false))) = (pairO [numOf a, numOf b]).isNone
    cases numOf a <;> cases numOf b <;> rfl
  | a :: b :: c :: r =>
    have : decide (((a :: b :: c :: r).length : Int) = 2) = false := decide_eq_false (by simp only [List.length_cons]; omega)
    rw [this]
    show true = (pairO (numOf a :: numOf b :: numOf c :: r.map numOf)).isNone
    cases numOf a <;> cases numOf b <;> rfl
theorem nums_tup {ws : List Str} {p : Nat × Nat} (h : pairO (ws.map numOf) = some p) : D.tup (ws.map numD) = pairD p := by
  match ws, h with
  | [a, b], h =>
    show D.tup [numD a, numD b] = _
    have h : pairO [numOf a, numOf b] = some p := h
    cases ea : numOf a with
    | none => rw [ea] at h; cases h
    | some x =>
      cases eb : numOf b with
      | none => rw [ea, eb] at h; cases h
      | some y =>
        rw [ea, eb] at h
        cases h
        unfold numD
        rw [ea, eb] <;> rfl
  | [], h => cases h
  | [a], h =>
    have h : pairO [numOf a] = some p := h
    cases ea : numOf a <;> rw [ea] at h <;> cases h
  | a :: b :: c :: r, h =>
    have h : pairO (numOf a :: numOf b :: numOf c :: r.map numOf) = some p := h
    cases ea : numOf a <;> cases eb : numOf b <;> rw [ea, eb] at h <;> cases h
theorem evP_drop1 {Φ : Md} {ρ : Rho} {μ : Mu} {a : IE} {m : Bool} {xs : List D} (h : ev Φ a ρ μ (.lst xs)) (hm : m = false) : evP Φ (.slice m a (.int 1) .nl) ρ μ (xs.drop 1) := fun R X z => by
  subst hm
  refine h _ _ ?_
  show opSlice false (.lst xs) (some ((1 : Nat) : Int)) none μ fun x μ2 => srcOf x μ2 R
  refine ⟨xs, rfl, ?_⟩
  show srcOf (.lst (cutD xs (some ((1 : Nat) : Int)) none)) μ R
  rw [cut_drop]
  exact z
/-- numbers = [number_of(word) for word in words[1:]] -/
theorem numbers_ev {Φ : Md} {ρ : Rho} {μ : Mu} {f : Str} {v t : Nat} {ws : List Str} (hf : Φ.fns f = some sp_num) (hv : ρ[v]? = some (some (.lst (ws.map .str)))) (ht : ∀ d, ((wipeD ρ [t]).set t (some d))[t]? = some (some d)) (hl : ws.length ≤ lim) (hw : ∀ w, w ∈ ws → w.length ≤ lim) :
    ev Φ (.lc false (.call f (.cs (.var t) .nl)) [t] false (.slice false (.var v) (.int 1) .nl) false .nl [t]) ρ μ (.lst ((ws.drop 1).map numD)) := by
  have e1 := ev_lc (Φ := Φ) (μ := μ) (ρ := ρ) (c := .nl) (el := .call f (.cs (.var t) .nl)) (tg := [t]) (tp := false) (own := [t]) (f := fun d => match d with
    | .str w => numD w
    | _ => .non) (evP_drop1 (ev_var hv) rfl).i (by rw [List.length_drop, List.length_map]; omega) (fun d hd R q => by
      obtain ⟨w, hw', rfl⟩ := List.mem_map.mp (List.mem_of_mem_drop hd)
      exact q _ (ev_call hf (evA_cs (ev_var (ht _)) evA_nl) fun R X z => ⟨w, rfl, hw w hw', z⟩))
  rw [← List.map_drop, List.map_map] at e1
  exact e1
theorem look_ev {Φ : Md} {ρ : Rho} {μ : Mu} {a n h : IE} {head w0 : Str} {ws : List Str} (ha : ev Φ a ρ μ (.lst ((w0 :: ws).map .str))) (hn : ev Φ n ρ μ (.lst (ws.map numD))) (hh : ev Φ h ρ μ (.str head)) :
    evT Φ (.or (.cmp .ne (.idx a (.int 0)) h) (.or (.cmp .ne (.bi .len false (.cs n .nl)) (.int 2)) (.cmp .isin .non n))) ρ μ (!decide (w0 = head) || (pairO (ws.map numOf)).isNone) := by
  rw [← nums_ok]
  refine evT_or (evT_cmp (ev_idx (d := .str w0) ha ev_int rfl atI_zero) hh fun R z => cmp_nes z) fun _ => evT_or (evT_cmp (ev_len hn rfl) ev_int fun R z => cmp_ne z) fun _ => ?_
  exact evT_cmp ev_non hn fun R z => .inl ⟨ws.map numD, rfl, rfl, by rw [List.all_map, List.all_eq_true]; exact fun w _ => numD_flat w, z⟩
def sp_lpair : DSp := sp2 fun x y μ R X => ∃ l h : Str, x = .str l ∧ y = .str h ∧ l.length ≤ 900000 ∧ R (pairND (pairOf l h)) μ
theorem m_law_pair {Φ : Md} (f : Φ.fns "_law_number_of" = some sp_num) : ∀ x y μ R X, (∃ l h : Str, x = .str l ∧ y = .str h ∧ l.length ≤ 900000 ∧ R (pairND (pairOf l h)) μ) → semS Φ i__law_pair (startD 5 [x, y]) μ (dEnd R X) := by
  rintro _ _ μ R X ⟨l, h, rfl, rfl, hl, q⟩
  have wl := words_len l
  refine asg_ev (d := .lst ((wordsOf l).map .str)) (ev_split (ev_var (i := 0) (d := .str l) rfl) ev_str (by decide) (by unfold lim; omega)) ?_
  refine asg_ev (numbers_ev f rfl (fun d => rfl) (by unfold lim; omega) fun w hw => by have := word_len hw; unfold lim; omega) ?_
  obtain ⟨w0, ws, ew⟩ : ∃ w0 ws, wordsOf l = w0 :: ws := by
    cases e : wordsOf l with
    | nil => exact absurd e (wordsOf_ok l).1
    | cons a b => exact ⟨a, b, rfl⟩
  have ep : pairOf l h = match decide (w0 = h) with
    | true => pairO (ws.map numOf)
    | false => none := by unfold pairOf; rw [ew] <;> rfl
  rw [ew]
  show semS Φ _ [some (.str l), some (.str h), some (.lst ((w0 :: ws).map .str)), some (.lst (ws.map numD)), none] μ _
  refine ret_ev (ev_ite (look_ev (ev_var (i := 2) rfl) (ev_var (i := 3) rfl) (ev_var (i := 1) rfl)) (fun z => ?_) (fun z => ?_)) q
  · have : pairOf l h = none := by
      rw [ep]
      cases hd : decide (w0 = h) with
      | false => rfl
      | true =>
        rw [hd] at z
        exact Option.isNone_iff_eq_none.mp z
    rw [this]
    exact ev_non
  · rw [Bool.or_eq_false_iff, Bool.not_eq_false'] at z
    rw [ep, z.1]
    cases e : pairO (ws.map numOf) with
    | none => rw [e] at z; cases z.2
    | some p => exact ev_bi (evA_cs (ev_var (d := .lst (ws.map numD)) rfl) evA_nl) fun R k => ⟨ws.map numD, rfl, by rw [nums_tup e]; exact k⟩
/-- the pair of a row that is not the last -/
def lineOf (rows : List Str) (at_ : Nat) (head : Str) : Option (Nat × Nat) := match decide (at_ + 1 < rows.length) with
  | true => pairOf (rows.getD at_ "") head
  | false => none
def badX (k : Nat) : Exc := ⟨"BadText", [("place", natD k)]⟩
def sp_pair_in : DSp := sp3 fun x y z μ R X => ∃ (rows : List Str) (k : Nat) (h : Str), x = .lst (rows.map .str) ∧ y = natD k ∧ z = .str h ∧ rows.length ≤ 900000 ∧ (∀ r, r ∈ rows → r.length ≤ 900000) ∧ (∀ p, lineOf rows k h = some p → R (pairD p) μ) ∧ (lineOf rows k h = none → X (badX (k + 1)) μ)
theorem m_pair_in {Φ : Md} (f : Φ.fns "number_of" = some sp_num) (o : Φ.own1 "BadText" = some "place") : ∀ x y z μ R X, (∃ (rows : List Str) (k : Nat) (h : Str), x = .lst (rows.map .str) ∧ y = natD k ∧ z = .str h ∧ rows.length ≤ 900000 ∧ (∀ r, r ∈ rows → r.length ≤ 900000) ∧ (∀ p, lineOf rows k h = some p → R (pairD p) μ) ∧ (lineOf rows k h = none → X (badX (k + 1)) μ)) →
    semS Φ i_pair_in (startD 6 [x, y, z]) μ (dEnd R X) := by
  rintro _ _ _ μ R X ⟨rows, k, h, rfl, rfl, rfl, hl, hr, q1, q2⟩
  have raise : ∀ (ρ : Rho) (E : End), ρ[1]? = some (some (natD k)) → E.ex (badX (k + 1)) ρ μ → semS Φ (.sq (.raise1 "BadText" (.bin .add false (.var 1) (.int 1))) .nop) ρ μ E := fun ρ E hρ he => by
    refine ⟨"place", o, ?_⟩
    have := ev_add (m := false) (ev_var (Φ := Φ) (μ := μ) (d := .int (k : Int)) hρ) (ev_int (n := 1))
    rw [show ((k : Int) + 1) = ((k + 1 : Nat) : Int) by omega] at this
    exact this _ _ he
  have e1 : evT Φ (.cmp .ge (.var 1) (.bin .sub false (.bi .len false (.cs (.var 0) .nl)) (.int 1))) (startD 6 [.lst (rows.map .str), natD k, .str h]) μ (!decide (k + 1 < rows.length)) := evT_cmp (o := .ge) (ev_var (d := .int (k : Int)) rfl) (ev_sub (ev_len (ev_var (i := 0) (d := .lst (rows.map .str)) rfl) rfl) ev_int) fun R z => cmp_ge (by
    rw [List.length_map]
    have : decide (((rows.length : Nat) : Int) - 1 ≤ (k : Int)) = !decide (k + 1 < rows.length) := by
      rw [← decide_not]
      exact decide_eq_decide.mpr (by omega)
    rw [this]
    exact z)
  refine if_ev e1 (fun z => ?_) (fun z => ?_)
  · have : lineOf rows k h = none := by
      unfold lineOf
      rw [Bool.not_eq_true'] at z
      rw [z]
    exact raise _ _ rfl ⟨fun _ => true, q2 this⟩
  · rw [Bool.not_eq_false'] at z
    have hk : k + 1 < rows.length := of_decide_eq_true z
    have el : lineOf rows k h = pairOf (rows.getD k "") h := by
      unfold lineOf
      rw [z]
    have gk : rows[k]? = some (rows.getD k "") := getD_some (by omega)
    have lk : (rows.getD k "").length ≤ 900000 := hr _ (List.mem_of_getElem? gk)
    generalize rows.getD k "" = l at el gk lk
    have wl := words_len l
    refine asg_ev (d := .lst ((wordsOf l).map .str)) (ev_split (ev_idxN (n := k) (d := .str l) (ev_var (i := 0) (d := .lst (rows.map .str)) rfl) (ev_var (d := .int (k : Int)) rfl) rfl rfl (by rw [List.getElem?_map, gk] <;> rfl)) ev_str (by decide) (by unfold lim; omega)) ?_
    refine asg_ev (numbers_ev f rfl (fun d => rfl) (by unfold lim; omega) fun w hw => by have := word_len hw; unfold lim; omega) ?_
    obtain ⟨w0, ws, ew⟩ : ∃ w0 ws, wordsOf l = w0 :: ws := by
      cases e : wordsOf l with
      | nil => exact absurd e (wordsOf_ok l).1
      | cons a b => exact ⟨a, b, rfl⟩
    have ep : pairOf l h = match decide (w0 = h) with
      | true => pairO (ws.map numOf)
      | false => none := by unfold pairOf; rw [ew] <;> rfl
    rw [ew]
    show semS Φ _ [some (.lst (rows.map .str)), some (natD k), some (.str h), some (.lst ((w0 :: ws).map .str)), some (.lst (ws.map numD)), none] μ _
    refine if_ev (look_ev (ev_var (i := 3) rfl) (ev_var (i := 4) rfl) (ev_var (i := 2) rfl)) (fun z => ?_) (fun z => ?_)
    · have : lineOf rows k h = none := by
        rw [el, ep]
        cases hd : decide (w0 = h) with
        | false => rfl
        | true =>
          rw [hd] at z
          exact Option.isNone_iff_eq_none.mp z
      exact raise _ _ rfl ⟨fun _ => true, q2 this⟩
    · rw [Bool.or_eq_false_iff, Bool.not_eq_false'] at z
      cases e : pairO (ws.map numOf) with
      | none => rw [e] at z; cases z.2
      | some p =>
        exact ret_ev (d := pairD p) (ev_bi (evA_cs (ev_var (i := 4) (d := .lst (ws.map numD)) rfl) evA_nl) fun R k => ⟨ws.map numD, rfl, by rw [nums_tup e]; exact k⟩) (q1 p (by rw [el, ep, z.1, e]))
end PL
/-! C4: whole texts read. -/
namespace PL
open PySem PySem.Spec PyProof.Rows L2 PySem.W

abbrev Got := List (Nat × Nat) ⊕ Nat
def stepR (ps : List (Nat × Nat)) (k : Nat) : Option (Nat × Nat) → Got
  | some p => .inl (ps ++ [p])
  | none => .inr (k + 2)
def moreR (o : Option (Nat × Nat)) (k : Nat) : Got → Got
  | .inr e => .inr e
  | .inl ps => stepR ps k o
/-- lines 1 .. k, or the number of the first that has not its form -/
def rl (f : Nat → Option (Nat × Nat)) : Nat → Got
  | 0 => .inl []
  | k + 1 => moreR (f (k + 1)) k (rl f k)
theorem rl_succ {f : Nat → Option (Nat × Nat)} {k : Nat} : rl f (k + 1) = moreR (f (k + 1)) k (rl f k) := rfl
theorem rl_stays {f : Nat → Option (Nat × Nat)} {k e : Nat} (h : rl f k = .inr e) : ∀ {m : Nat}, k ≤ m → rl f m = .inr e
  | 0, hm => by
    have : k = 0 := by omega
    rw [this] at h
    exact h
  | m + 1, hm => by
    rcases Nat.lt_or_eq_of_le hm with q | rfl
    · rw [rl_succ, rl_stays h (m := m) (by omega)] <;> rfl
    · exact h
theorem rl_next {f : Nat → Option (Nat × Nat)} {k : Nat} {ps : List (Nat × Nat)} (h : rl f k = .inl ps) : rl f (k + 1) = stepR ps k (f (k + 1)) := by
  rw [rl_succ, h] <;> rfl
theorem rl_len {f : Nat → Option (Nat × Nat)} : ∀ {k : Nat} {ps : List (Nat × Nat)}, rl f k = .inl ps → ps.length = k
  | 0, ps, h => by cases h; rfl
  | k + 1, ps, h => by
    cases e : rl f k with
    | inr x => rw [rl_stays e (Nat.le_succ k)] at h; cases h
    | inl qs =>
      rw [rl_next e] at h
      cases e2 : f (k + 1) with
      | none => rw [e2] at h; cases h
      | some p =>
        rw [e2] at h
        cases h
        rw [List.length_append, rl_len e] <;> rfl
def endOk (rows : List Str) (count : Nat) : Bool := decide (rows.length = count + 2) && decide (rows.getLast? = some "")
def endR (rows : List Str) (many count : Nat) : Got → (Nat × List (Nat × Nat)) ⊕ Nat
  | .inr e => .inr e
  | .inl ps => match endOk rows count with
    | true => .inl (many, ps)
    | false => .inr (count + 2)
def readR (rows : List Str) (word : Str) : Option (Nat × Nat) → (Nat × List (Nat × Nat)) ⊕ Nat
  | none => .inr 1
  | some p => endR rows p.1 p.2 (rl (fun k => lineOf rows k word) p.2)
def readT (text head word : Str) : (Nat × List (Nat × Nat)) ⊕ Nat := readR (rowsOf text) word (lineOf (rowsOf text) 0 head)
theorem num_lt {w : Str} {n : Nat} (h : numOf w = some n) : n < 10000 := by
  unfold numOf at h
  split at h
  · rename_i e
    cases h
    simp only [Bool.and_eq_true, decide_eq_true_eq] at e
    obtain ⟨⟨⟨h1, h2⟩, h3⟩, _⟩ := e
    have ad : NumText.AllDigits (TL.tl w) := fun c hc => dig_mem (of_decide_eq_true (List.all_eq_true.mp h3 c hc))
    rw [TL.len_tl] at h2
    unfold NumText.digitsVal
    match TL.tl w, h2, ad with
    | [], _, _ => decide
    | [a], _, ad =>
      have := ad a (by simp)
      show 0 * 10 + (a - 48) < 10000
      omega
    | [a, b], _, ad =>
      have := ad a (by simp)
      have := ad b (by simp)
      show (0 * 10 + (a - 48)) * 10 + (b - 48) < 10000
      omega
    | [a, b, c], _, ad =>
      have := ad a (by simp)
      have := ad b (by simp)
      have := ad c (by simp)
      show ((0 * 10 + (a - 48)) * 10 + (b - 48)) * 10 + (c - 48) < 10000
      omega
    | [a, b, c, d], _, ad =>
      have := ad a (by simp)
      have := ad b (by simp)
      have := ad c (by simp)
      have := ad d (by simp)
      show (((0 * 10 + (a - 48)) * 10 + (b - 48)) * 10 + (c - 48)) * 10 + (d - 48) < 10000
      omega
    | a :: b :: c :: d :: e :: r, h2, _ => simp only [List.length_cons] at h2; omega
  · cases h
theorem pair_lt {l h : Str} {p : Nat × Nat} (e : pairOf l h = some p) : p.1 < 10000 ∧ p.2 < 10000 := by
  unfold pairOf at e
  split at e
  · cases e
  · rename_i w ws ew
    split at e
    · match ws, e with
      | [a, b], e =>
        have e : pairO [numOf a, numOf b] = some p := e
        cases ea : numOf a with
        | none => rw [ea] at e; cases e
        | some x =>
          cases eb : numOf b with
          | none => rw [ea, eb] at e; cases e
          | some y =>
            rw [ea, eb] at e
            cases e
            exact ⟨num_lt ea, num_lt eb⟩
      | [], e => cases e
      | [a], e =>
        have e : pairO [numOf a] = some p := e
        cases ea : numOf a <;> rw [ea] at e <;> cases e
      | a :: b :: c :: r, e =>
        have e : pairO (numOf a :: numOf b :: numOf c :: r.map numOf) = some p := e
        cases ea : numOf a <;> cases eb : numOf b <;> rw [ea, eb] at e <;> cases e
    · cases e
theorem line_lt {rows : List Str} {k : Nat} {h : Str} {p : Nat × Nat} (e : lineOf rows k h = some p) : p.1 < 10000 ∧ p.2 < 10000 := by
  unfold lineOf at e
  split at e
  · exact pair_lt e
  · cases e
theorem asgX_sem {Φ : Md} {ρ : Rho} {μ : Mu} {E : End} {rest : IS} {i t : Nat} {el it : IE} {ds : List D} (h : evP Φ it ρ μ ds) (hl : ds.length ≤ lim)
    (k : turns (fun d acc μ2 K => semE Φ el ((wipeD ρ [t]).set t (some d)) μ2 (fun y μ4 => K (acc ++ [y]) μ4) (fun x μ' => E.ex x ρ μ')) (fun _ => True) ds [] μ fun acc μ2 => semS Φ rest (ρ.set i (some (.lst acc))) μ2 E) :
    semS Φ (.sq (.asgX i el [t] false it [t]) rest) ρ μ E := h _ _ ⟨hl, k⟩
theorem unp_sem {Φ : Md} {ρ : Rho} {μ : Mu} {E : End} {rest : IS} {is : List Nat} {e : IE} (h : semE Φ e ρ μ (fun d μ1 => bindD is true d ρ fun ρ1 => semS Φ rest ρ1 μ1 E) (fun x μ' => E.ex x ρ μ')) : semS Φ (.sq (.unp is e) rest) ρ μ E := h
theorem not_str {x : D} (h : ∀ t, x ≠ .str t) : isTy .str x = false := by
  cases x <;> first | rfl | exact absurd rfl (h _)
def sp_pairs_read : DSp := sp3 fun x y z μ R X => ∃ h w : Str, y = .str h ∧ z = .str w ∧ tyable μ x = true ∧ (∀ t, x = .str t → t.length ≤ 800000 ∧ (∀ n ps, readT t h w = .inl (n, ps) → R (.tup [natD n, .lst (ps.map pairD)]) μ) ∧ ∀ e, readT t h w = .inr e → X (badX e) μ) ∧ ((∀ t, x ≠ .str t) → X (badX 0) μ)
theorem m_pairs_read {Φ : Md} (f : Φ.fns "pair_in" = some sp_pair_in) (o : Φ.own1 "BadText" = some "place") : ∀ x y z μ R X, (∃ h w : Str, y = .str h ∧ z = .str w ∧ tyable μ x = true ∧ (∀ t, x = .str t → t.length ≤ 800000 ∧ (∀ n ps, readT t h w = .inl (n, ps) → R (.tup [natD n, .lst (ps.map pairD)]) μ) ∧ ∀ e, readT t h w = .inr e → X (badX e) μ) ∧ ((∀ t, x ≠ .str t) → X (badX 0) μ)) →
    semS Φ i_pairs_read (startD 8 [x, y, z]) μ (dEnd R X) := by
  rintro x _ _ μ R X ⟨h, w, rfl, rfl, ty, q1, q2⟩
  have e0 : evT Φ (.not (.inst (.var 0) .str)) (startD 8 [x, .str h, .str w]) μ (!isTy .str x) := evT_not (evT_inst (ev_var (d := x) rfl) ty)
  refine if_ev e0 (fun z => ?_) (fun z => ?_)
  · refine ⟨"place", o, ev_int _ _ ⟨fun _ => true, q2 fun t e => ?_⟩⟩
    subst e
    cases z
  · cases x with
    | str t =>
      obtain ⟨hl, qa, qb⟩ := q1 t rfl
      have rwl := rows_len t
      refine asg_ev (d := .lst ((rowsOf t).map .str)) (ev_split (ev_var (i := 0) (d := .str t) rfl) ev_str (by decide) (by unfold lim; omega)) ?_
      have rlen : ∀ r, r ∈ rowsOf t → r.length ≤ 900000 := fun r hr => by have := row_len hr; omega
      have call : ∀ (ρ : Rho) (a b : IE) (k : Nat) (hd : Str) (R : RD) (X : RX), ρ[3]? = some (some (.lst ((rowsOf t).map .str))) → ev Φ a ρ μ (natD k) → ev Φ b ρ μ (.str hd) → (∀ p, lineOf (rowsOf t) k hd = some p → R (pairD p) μ) → (lineOf (rowsOf t) k hd = none → X (badX (k + 1)) μ) →
          semE Φ (.call "pair_in" (.cs (.var 3) (.cs a (.cs b .nl)))) ρ μ R X := fun ρ a b k hd R X h3 ha hb r1 r2 =>
        call_sem f (evA_cs (ev_var h3) (evA_cs ha (evA_cs hb evA_nl)) _ _ ⟨rowsOf t, k, hd, rfl, rfl, rfl, by omega, rlen, r1, r2⟩)
      refine unp_sem (call _ _ _ 0 h _ _ rfl ev_int (ev_var (i := 1) (d := .str h) rfl) (fun p hp => ?_) (fun hn => ⟨fun _ => true, qb 1 (by unfold readT; rw [hn] <;> rfl)⟩))
      obtain ⟨many, count⟩ := p
      have hc := (line_lt hp).2
      have hc : count < 10000 := hc
      refine ⟨[.int many, .int count], rfl, rfl, ?_⟩
      show semS Φ _ [some (.str t), some (.str h), some (.str w), some (.lst ((rowsOf t).map .str)), some (natD many), some (natD count), none, none] μ _
      have e5 := evP_range1 (Φ := Φ) (μ := μ) (a := .var 5) (ρ := [some (.str t), some (.str h), some (.str w), some (.lst ((rowsOf t).map .str)), some (natD many), some (natD count), none, none]) (j := (count : Int)) (ev_var rfl) (by unfold lim; omega) (by unfold lim; omega)
      rw [Int.toNat_natCast] at e5
      refine asgX_sem e5 (by rw [List.length_map, List.length_range]; unfold lim; omega) ?_
      refine turns_by (fun i acc μ1 => μ1 = μ ∧ ∃ ps, acc = ps.map pairD ∧ rl (fun k => lineOf (rowsOf t) k w) i = .inl ps) ⟨rfl, [], rfl, rfl⟩ (fun _ _ _ _ _ => trivial) (fun i d acc μ1 K hd hh k => ?_) (fun acc μ1 hh => ?_)
      · obtain ⟨rfl, ps, rfl, hps⟩ := hh
        have hi : i < count := by
          have := (List.getElem?_eq_some_iff.mp hd).1
          simpa using this
        rw [range_at hi] at hd
        cases hd
        have ea := ev_add (m := false) (ev_var (Φ := Φ) (μ := μ1) (i := 7) (ρ := [some (.str t), some (.str h), some (.str w), some (.lst ((rowsOf t).map .str)), some (natD many), some (natD count), none, some (.int (i : Nat))]) (d := .int (i : Nat)) rfl) (ev_int (n := 1))
        rw [show (((i : Nat) : Int) + 1) = ((i + 1 : Nat) : Int) by omega] at ea
        refine call _ _ _ (i + 1) w _ _ rfl ea (ev_var (i := 2) (d := .str w) rfl) (fun p hp => k _ _ ⟨rfl, ps ++ [p], by rw [List.map_append] <;> rfl, ?_⟩) (fun hn => ⟨fun _ => true, qb (i + 2) ?_⟩)
        · rw [rl_next hps]
          show stepR ps i (lineOf (rowsOf t) (i + 1) w) = _
          rw [hp] <;> rfl
        · have e1 : rl (fun k => lineOf (rowsOf t) k w) (i + 1) = .inr (i + 2) := by
            rw [rl_next hps]
            show stepR ps i (lineOf (rowsOf t) (i + 1) w) = _
            rw [hn] <;> rfl
          unfold readT
          rw [hp]
          show endR (rowsOf t) many count (rl (fun k => lineOf (rowsOf t) k w) count) = _
          rw [rl_stays e1 (by omega)] <;> rfl
      · obtain ⟨rfl, ps, rfl, hps⟩ := hh
        rw [List.length_map, List.length_range] at hps
        have er : readT t h w = endR (rowsOf t) many count (.inl ps) := by
          unfold readT
          rw [hp]
          show endR (rowsOf t) many count (rl (fun k => lineOf (rowsOf t) k w) count) = _
          rw [hps]
        have ef : endOk (rowsOf t) count = false → readT t h w = .inr (count + 2) := fun z => by
          rw [er]
          unfold endR
          rw [z]
        have et : endOk (rowsOf t) count = true → readT t h w = .inl (many, ps) := fun z => by
          rw [er]
          unfold endR
          rw [z]
        show semS Φ _ [some (.str t), some (.str h), some (.str w), some (.lst ((rowsOf t).map .str)), some (natD many), some (natD count), some (.lst (ps.map pairD)), none] μ1 _
        have c2 := ev_add (m := false) (ev_var (Φ := Φ) (μ := μ1) (i := 5) (ρ := [some (.str t), some (.str h), some (.str w), some (.lst ((rowsOf t).map .str)), some (natD many), some (natD count), some (.lst (ps.map pairD)), none]) (d := .int (count : Nat)) rfl) (ev_int (n := 2))
        have c2' := c2
        rw [show (((count : Nat) : Int) + 2) = ((count + 2 : Nat) : Int) by omega] at c2'
        have a1 : evT Φ (.cmp .ne (.bi .len false (.cs (.var 3) .nl)) (.bin .add false (.var 5) (.int 2))) [some (.str t), some (.str h), some (.str w), some (.lst ((rowsOf t).map .str)), some (natD many), some (natD count), some (.lst (ps.map pairD)), none] μ1 (!decide ((rowsOf t).length = count + 2)) := evT_cmp (ev_len (ev_var (i := 3) (d := .lst ((rowsOf t).map .str)) rfl) rfl) c2 fun R z => cmp_ne (by
          rw [List.length_map]
          have : decide (((rowsOf t).length : Int) = (count : Int) + 2) = decide ((rowsOf t).length = count + 2) := decide_eq_decide.mpr (by omega)
          rw [this]
          exact z)
        obtain ⟨lst, hlst⟩ : ∃ l, (rowsOf t).getLast? = some l := by
          cases e : (rowsOf t).getLast? with
          | none => exact absurd (List.getLast?_eq_none_iff.mp e) (rowsOf_ok t).1
          | some l => exact ⟨l, rfl⟩
        have hpos : 0 < (rowsOf t).length := List.length_pos_iff.mpr (rowsOf_ok t).1
        have a2 : evT Φ (.cmp .ne (.idx (.var 3) (.neg (.int 1))) (.str "")) [some (.str t), some (.str h), some (.str w), some (.lst ((rowsOf t).map .str)), some (natD many), some (natD count), some (.lst (ps.map pairD)), none] μ1 (!decide ((rowsOf t).getLast? = some "")) := evT_cmp (x := .str lst) (ev_idx (ev_var (i := 3) (d := .lst ((rowsOf t).map .str)) rfl) (ev_neg ev_int) rfl (by
          unfold atI ixN
          rw [if_neg (by decide), if_pos (by rw [List.length_map]; omega)]
          show ((rowsOf t).map D.str)[(((((rowsOf t).map D.str).length : Nat) : Int) + -1).toNat]? = _
          rw [List.getElem?_map, List.length_map, show ((((rowsOf t).length : Nat) : Int) + -1).toNat = (rowsOf t).length - 1 by omega, ← List.getLast?_eq_getElem?, hlst] <;> rfl)) ev_str fun R z => cmp_nes (by
            have : decide (lst = "") = decide ((rowsOf t).getLast? = some "") := decide_eq_decide.mpr (by rw [hlst]; simp)
            rw [this]
            exact z)
        refine if_ev (evT_or a1 fun _ => a2) (fun z => ?_) (fun z => ?_)
        · refine ⟨"place", o, c2' _ _ ⟨fun _ => true, qb (count + 2) ?_⟩⟩
          apply ef
          unfold endOk
          cases e1 : decide ((rowsOf t).length = count + 2) with
          | false => rfl
          | true =>
            rw [e1] at z
            have z : (!decide ((rowsOf t).getLast? = some "")) = true := z
            rw [Bool.not_eq_true'] at z
            rw [z] <;> rfl
        · rw [Bool.or_eq_false_iff, Bool.not_eq_false', Bool.not_eq_false'] at z
          refine ret_ev (ev_tup (evA_cs (ev_var (i := 4) (d := natD many) rfl) (evA_cs (ev_var (i := 6) (d := .lst (ps.map pairD)) rfl) evA_nl))) (qa many ps ?_)
          apply et
          unfold endOk
          rw [z.1, z.2] <;> rfl
    | _ => cases z
end PL
/-! C5: whole texts read by the law. -/
namespace PL
open PySem PySem.Spec PyProof.Rows L2 PySem.W

theorem Cells.ret0 {μ0 μ : Mu} {as : List Addr} {os : List MO} {R : RD} {d : D} (c : Cells μ0 μ as os) (h : R d μ0) : ∃ keep n, R (PL.fz μ keep n d) (μ.cut keep) := ⟨kp as, 0, by rw [c.cut]; exact h⟩
def readD : (Nat × List (Nat × Nat)) ⊕ Nat → D
  | .inl p => .tup [natD p.1, .tup (p.2.map pairD)]
  | .inr e => natD e
def sp_read : DSp := sp3 fun x y z μ R X => ∃ t h w : Str, x = .str t ∧ y = .str h ∧ z = .str w ∧ t.length ≤ 800000 ∧ R (readD (readT t h w)) μ
theorem line_at {rows : List Str} {k : Nat} {h : Str} (hk : k + 1 < rows.length) : lineOf rows k h = pairOf (rows.getD k "") h := by
  unfold lineOf
  rw [decide_eq_true hk]
theorem line_no {rows : List Str} {k : Nat} {h : Str} (hk : ¬ k + 1 < rows.length) : lineOf rows k h = none := by
  unfold lineOf
  rw [decide_eq_false hk]
theorem nonD (o : Option (Nat × Nat)) : isNon (pairND o) = o.isNone := by cases o <;> rfl
theorem m_read {Φ : Md} (f : Φ.fns "_law_pair" = some sp_lpair) : ∀ x y z μ R X, (∃ t h w : Str, x = .str t ∧ y = .str h ∧ z = .str w ∧ t.length ≤ 800000 ∧ R (readD (readT t h w)) μ) → semS Φ i__law_read (startD 10 [x, y, z]) μ (dEnd R X) := by
  rintro _ _ _ μ R X ⟨t, h, w, rfl, rfl, rfl, hl, q⟩
  have rwl := rows_len t
  have rne := (rowsOf_ok t).1
  have rlen : ∀ r, r ∈ rowsOf t → r.length ≤ 900000 := fun r hr => by have := row_len hr; omega
  refine asg_ev (d := .lst ((rowsOf t).map .str)) (ev_split (ev_var (i := 0) (d := .str t) rfl) ev_str (by decide) (by unfold lim; omega)) ?_
  unfold readT at q
  generalize rowsOf t = rows at rwl rne rlen q
  have hpos : 0 < rows.length := List.length_pos_iff.mpr rne
  obtain ⟨L, hL⟩ : ∃ L, rows.length = L + 1 := ⟨rows.length - 1, by omega⟩
  have eL : ∀ {ρ : Rho} {μ : Mu}, ρ[3]? = some (some (.lst (rows.map .str))) → ev Φ (.bin .sub false (.bi .len false (.cs (.var 3) .nl)) (.int 1)) ρ μ (natD L) := fun {ρ μ} h3 => by
    have := ev_sub (m := false) (ev_len (m := false) (ev_var (Φ := Φ) (μ := μ) h3) rfl) (ev_int (n := 1))
    rw [List.length_map, hL, show (((L + 1 : Nat) : Int) - 1) = (L : Int) by omega] at this
    exact this
  have tl : rows[L]? = some (rows.getD L "") := getD_some (by omega)
  have s1 : ev Φ (.slice false (.var 3) .nl (.bin .sub false (.bi .len false (.cs (.var 3) .nl)) (.int 1))) [some (.str t), some (.str h), some (.str w), some (.lst (rows.map .str)), none, none, none, none, none, none] μ (.lst ((rows.take L).map .str)) := ev_slice (ev_var (i := 3) (d := .lst (rows.map .str)) rfl) evO_nl (evO_bin (eL rfl)) fun R z => ⟨_, rfl, by
    show R (.lst (cutD (rows.map .str) none (some (L : Int)))) μ
    rw [cut_take, ← List.map_take]
    exact z⟩
  refine asg2_ev s1 (ev_idxN (n := L) (d := .str (rows.getD L "")) (ev_var (i := 3) (d := .lst (rows.map .str)) rfl) (eL rfl) rfl rfl (by rw [List.getElem?_map, tl] <;> rfl)) ?_
  have lget : rows.getLast? = some (rows.getD L "") := by rw [List.getLast?_eq_getElem?, hL]; exact tl
  generalize rows.getD L "" = last at tl lget
  show semS Φ _ [some (.str t), some (.str h), some (.str w), some (.lst (rows.map .str)), some (.lst ((rows.take L).map .str)), some (.str last), none, none, none, none] μ _
  have ll : (rows.take L).length = L := by rw [List.length_take]; omega
  have elen : ∀ {ρ : Rho} {μ : Mu}, ρ[4]? = some (some (.lst ((rows.take L).map .str))) → ev Φ (.bi .len false (.cs (.var 4) .nl)) ρ μ (natD L) := fun {ρ μ} h4 => by
    have := ev_len (m := false) (ev_var (Φ := Φ) (μ := μ) h4) rfl
    rw [List.length_map, ll] at this
    exact this
  have pair : ∀ {ρ : Rho} {μ : Mu} {a b : IE} {k : Nat} {hd : Str}, ρ[4]? = some (some (.lst ((rows.take L).map .str))) → k < L → ev Φ a ρ μ (natD k) → ev Φ b ρ μ (.str hd) → ev Φ (.call "_law_pair" (.cs (.idx (.var 4) a) (.cs b .nl))) ρ μ (pairND (lineOf rows k hd)) := fun {ρ μ a b k hd} h4 hk ha hb => by
    have gk : rows[k]? = some (rows.getD k "") := getD_some (by omega)
    rw [line_at (by omega)]
    refine ev_call f (evA_cs (ev_idxN (n := k) (d := .str (rows.getD k "")) (ev_var h4) ha rfl rfl (by rw [List.getElem?_map, List.getElem?_take, if_pos hk, gk] <;> rfl)) (evA_cs hb evA_nl)) fun R X z => ⟨_, hd, rfl, rfl, rlen _ (List.mem_of_getElem? gk), z⟩
  have first : ev Φ (.ite (.cmp .gt (.bi .len false (.cs (.var 4) .nl)) (.int 0)) (.call "_law_pair" (.cs (.idx (.var 4) (.int 0)) (.cs (.var 1) .nl))) .non) [some (.str t), some (.str h), some (.str w), some (.lst (rows.map .str)), some (.lst ((rows.take L).map .str)), some (.str last), none, none, none, none] μ (pairND (lineOf rows 0 h)) := by
    refine ev_ite (evT_cmp (elen rfl) (ev_int (n := 0)) fun R z => cmp_gt z) (fun z => ?_) (fun z => ?_)
    · have z := of_decide_eq_true z
      exact pair rfl (by omega) (ev_int (n := 0)) (ev_var (i := 1) (d := .str h) rfl)
    · have z := of_decide_eq_false z
      rw [line_no (by omega)]
      exact ev_non
  refine asg_ev first ?_
  cases e0 : lineOf rows 0 h with
  | none =>
    rw [e0] at q
    exact if_ret (p := true) (d := .int 1) (evT_cmp (ev_var (i := 6) (d := .non) rfl) ev_non fun R z => z) (fun _ => ⟨ev_int, q⟩) (fun z => by cases z)
  | some p0 =>
    rw [e0] at q
    obtain ⟨many, count⟩ := p0
    have hcount : count < 10000 := (line_lt e0).2
    have L1 : 1 ≤ L := by
      have : ¬ ¬ (0 + 1 < rows.length) := fun z => by rw [line_no z] at e0; cases e0
      omega
    have q : R (readD (endR rows many count (rl (fun k => lineOf rows k w) count))) μ := q
    refine if_ev (p := false) (evT_cmp (ev_var (i := 6) (d := pairD (many, count)) rfl) ev_non fun R z => z) (fun z => by cases z) (fun _ => ?_)
    refine asg_lst fun a ha => ?_
    have c0 : Cells μ (μ.set a (.lst [])) [a] [.lst []] := Cells.nil.add ha
    show semS Φ _ [some (.str t), some (.str h), some (.str w), some (.lst (rows.map .str)), some (.lst ((rows.take L).map .str)), some (.str last), some (pairD (many, count)), some (.ref a), none, none] (μ.set a (.lst [])) _
    obtain ⟨mn, hmn, hm1, hm2⟩ : ∃ mn : Nat, (if (L : Int) < (count : Int) then (L : Int) else (count : Int)) = (mn : Int) ∧ mn ≤ L ∧ (mn = count ∨ (mn = L ∧ L < count)) := by
      by_cases c : (L : Int) < (count : Int)
      · exact ⟨L, by rw [if_pos c], by omega, .inr ⟨rfl, by omega⟩⟩
      · exact ⟨count, by rw [if_neg c], by omega, .inl rfl⟩
    have emin : ∀ (μ : Mu), ev Φ (.bin .add false (.bi .min2 false (.cs (.idx (.var 6) (.int 1)) (.cs (.bi .len false (.cs (.var 4) .nl)) .nl))) (.int 1)) [some (.str t), some (.str h), some (.str w), some (.lst (rows.map .str)), some (.lst ((rows.take L).map .str)), some (.str last), some (pairD (many, count)), some (.ref a), none, none] μ (.int ((mn : Int) + 1)) := fun μ =>
      ev_add (ev_bi (d := .int mn) (evA_cs (ev_idx (d := .int (count : Nat)) (ev_var (i := 6) (d := pairD (many, count)) rfl) ev_int rfl rfl) (evA_cs (elen rfl) evA_nl)) fun R z => by
        show R (.int (if (L : Int) < (count : Int) then (L : Int) else (count : Int))) μ
        rw [hmn]
        exact z) ev_int
    have er := evP_range2 (Φ := Φ) (μ := μ.set a (.lst [])) (ev_int (n := 1)) (emin _) (by unfold lim; omega) (by unfold lim; omega) (by unfold lim; omega) (by unfold lim; omega)
    rw [show ((mn : Int) + 1 - 1).toNat = mn by omega] at er
    refine for_evP er ?_
    refine forT_by (fun i ρ1 μ1 => ∃ o p ps, ρ1 = [some (.str t), some (.str h), some (.str w), some (.lst (rows.map .str)), some (.lst ((rows.take L).map .str)), some (.str last), some (pairD (many, count)), some (.ref a), o, p] ∧ Cells μ μ1 [a] [.lst (ps.map pairD)] ∧ rl (fun k => lineOf rows k w) i = .inl ps) ⟨none, none, [], rfl, c0, rfl⟩ (fun _ _ _ _ _ => trivial) (fun i d ρ1 μ1 N hd hh k => ?_) (fun ρ1 μ1 hh => ?_)
    · obtain ⟨o, p, ps, rfl, c, hps⟩ := hh
      have hi : i < mn := by
        have := (List.getElem?_eq_some_iff.mp hd).1
        simpa using this
      rw [range_at hi] at hd
      cases hd
      rw [show ((1 : Int) + (i : Nat)) = ((i + 1 : Nat) : Int) by omega]
      show semS Φ (.sq _ _) [some (.str t), some (.str h), some (.str w), some (.lst (rows.map .str)), some (.lst ((rows.take L).map .str)), some (.str last), some (pairD (many, count)), some (.ref a), some (natD (i + 1)), p] μ1 _
      have nx : ev Φ (.ite (.cmp .lt (.var 8) (.bi .len false (.cs (.var 4) .nl))) (.call "_law_pair" (.cs (.idx (.var 4) (.var 8)) (.cs (.var 2) .nl))) .non) [some (.str t), some (.str h), some (.str w), some (.lst (rows.map .str)), some (.lst ((rows.take L).map .str)), some (.str last), some (pairD (many, count)), some (.ref a), some (natD (i + 1)), p] μ1 (pairND (lineOf rows (i + 1) w)) := by
        refine ev_ite (evT_cmp (ev_var (i := 8) (d := natD (i + 1)) rfl) (elen rfl) fun R z => ltN z) (fun z => ?_) (fun z => ?_)
        · have z := of_decide_eq_true z
          exact pair rfl (by omega) (ev_var (i := 8) rfl) (ev_var (i := 2) (d := .str w) rfl)
        · have z := of_decide_eq_false z
          rw [line_no (by omega)]
          exact ev_non
      refine asg_ev nx ?_
      have ns := rl_next hps
      cases e1 : lineOf rows (i + 1) w with
      | none =>
        refine if_ev (p := true) (evT_cmp (ev_var (i := 9) (d := .non) rfl) ev_non fun R z => z) (fun _ => ?_) (fun z => by cases z)
        have ea := ev_add (m := false) (ev_var (Φ := Φ) (μ := μ1) (i := 8) (ρ := [some (.str t), some (.str h), some (.str w), some (.lst (rows.map .str)), some (.lst ((rows.take L).map .str)), some (.str last), some (pairD (many, count)), some (.ref a), some (natD (i + 1)), some .non]) (d := .int ((i + 1 : Nat) : Int)) rfl) (ev_int (n := 1))
        rw [show (((i + 1 : Nat) : Int) + 1) = ((i + 2 : Nat) : Int) by omega] at ea
        have e2 : rl (fun k => lineOf rows k w) (i + 1) = .inr (i + 2) := by
          rw [ns]
          show stepR ps i (lineOf rows (i + 1) w) = _
          rw [e1] <;> rfl
        rw [rl_stays e2 (by omega)] at q
        exact ret_E ea (c.ret0 q)
      | some pr =>
        refine if_ev (p := false) (evT_cmp (ev_var (i := 9) (d := pairD pr) rfl) ev_non fun R z => z) (fun z => by cases z) (fun _ => ?_)
        have eat : μ1 a = some (.lst (ps.map pairD)) := c.has 0 a _ rfl rfl
        have rt : (ritems μ1 (.ref a)).isSome = true := by
          show ((match μ1 a with | some (.lst ds) => some ds | _ => none).isSome = true)
          rw [eat] <;> rfl
        have pl := rl_len hps
        refine expr_sem (meth_sem (ev_var (i := 7) (d := .ref a) rfl _ _ ⟨rt, one_sem (ev_var (i := 9) (d := pairD pr) rfl _ _ ⟨_, eat, by rw [List.length_map]; unfold lim; omega, ?_⟩)⟩))
        have c2 := c.put (k := 0) (a := a) (m := .lst ((ps ++ [pr]).map pairD)) rfl
        refine k _ _ ⟨_, _, ps ++ [pr], rfl, ?_, ?_⟩
        · rw [List.map_append] at c2
          rw [List.map_append]
          exact c2
        · rw [ns]
          show stepR ps i (lineOf rows (i + 1) w) = _
          rw [e1] <;> rfl
    · obtain ⟨o, p, ps, rfl, c, hps⟩ := hh
      rw [List.length_map, List.length_range] at hps
      have hmc : mn = count := by
        rcases hm2 with e | ⟨e, hlt⟩
        · exact e
        · exfalso
          have L0 : L - 1 + 1 = L := by omega
          rw [e] at hps
          cases z : rl (fun k => lineOf rows k w) (L - 1) with
          | inr x => rw [rl_stays z (by omega)] at hps; cases hps
          | inl qs =>
            have := rl_next z
            rw [L0, line_no (by omega)] at this
            rw [this] at hps
            cases hps
      rw [hmc] at hps
      rw [hps] at q
      have c2 : ∀ j : Int, ev Φ (.bin .add false (.idx (.var 6) (.int 1)) (.int j)) [some (.str t), some (.str h), some (.str w), some (.lst (rows.map .str)), some (.lst ((rows.take L).map .str)), some (.str last), some (pairD (many, count)), some (.ref a), o, p] μ1 (.int ((count : Int) + j)) := fun j => ev_add (ev_idx (d := .int (count : Nat)) (ev_var (i := 6) (d := pairD (many, count)) rfl) ev_int rfl rfl) ev_int
      have eat : μ1 a = some (.lst (ps.map pairD)) := c.has 0 a _ rfl rfl
      have ee : endOk rows count = (decide ((L : Int) = (count : Int) + 1) && decide (last = "")) := by
        unfold endOk
        rw [lget]
        congr 1
        · exact decide_eq_decide.mpr (by omega)
        · exact decide_eq_decide.mpr (by simp)
      have res : ev Φ (.ite (.and (.cmp .eq (.bi .len false (.cs (.var 4) .nl)) (.bin .add false (.idx (.var 6) (.int 1)) (.int 1))) (.cmp .eq (.var 5) (.str ""))) (.tup (.cs (.idx (.var 6) (.int 0)) (.cs (.bi .tuple false (.cs (.var 7) .nl)) .nl))) (.bin .add false (.idx (.var 6) (.int 1)) (.int 2))) [some (.str t), some (.str h), some (.str w), some (.lst (rows.map .str)), some (.lst ((rows.take L).map .str)), some (.str last), some (pairD (many, count)), some (.ref a), o, p] μ1 (readD (endR rows many count (.inl ps))) := by
        refine ev_ite (evT_and (evT_cmp (elen rfl) (c2 1) fun R z => cmp_eq z) fun _ => evT_cmp (ev_var (i := 5) (d := .str last) rfl) ev_str fun R z => cmp_eqs z) (fun z => ?_) (fun z => ?_)
        · have z : (decide ((L : Int) = (count : Int) + 1) && decide (last = "")) = true := z
          rw [← ee] at z
          have e3 : readD (endR rows many count (.inl ps)) = .tup [natD many, .tup (ps.map pairD)] := by
            unfold endR
            rw [z] <;> rfl
          rw [e3]
          refine ev_tup (evA_cs (ev_idx (ev_var (i := 6) (d := pairD (many, count)) rfl) ev_int rfl rfl) (evA_cs (ev_bi (evA_cs (ev_var (i := 7) (d := .ref a) rfl) evA_nl) fun R z => ⟨_, ?_, z⟩) evA_nl))
          show (match μ1 a with | some (.lst ds) => some ds | _ => none) = _
          rw [eat] <;> rfl
        · have z : (decide ((L : Int) = (count : Int) + 1) && decide (last = "")) = false := z
          rw [← ee] at z
          have e3 : readD (endR rows many count (.inl ps)) = natD (count + 2) := by
            unfold endR
            rw [z] <;> rfl
          rw [e3]
          have := c2 2
          rw [show ((count : Int) + 2) = ((count + 2 : Nat) : Int) by omega] at this
          exact this
      exact ret_sem (res _ _ (c.ret0 q))
end PL
/-! C6: letters and arrows, the program's. -/
namespace PL
open PySem PySem.Spec PyProof.Rows L2 PySem.W

def letD (b : Bool) : D := .str (if b then ">" else "<")
def isLet : D → Bool
  | .str s => decide (s = ">") || decide (s = "<")
  | _ => false
def letB (k : Nat) : D → Bool
  | .tup ls => decide (ls.length = k) && ls.all isLet
  | _ => false
theorem eqF_str {a b : Str} : eqF (.str a) (.str b) = decide (b = a) := by
  show (a == b) = decide (b = a)
  by_cases h : b = a
  · subst h; simp
  · rw [decide_eq_false h]
    simpa using fun z => h z.symm
theorem let_form {k : Nat} {d : D} (h : letB k d = true) : ∃ bs : List Bool, bs.length = k ∧ d = .tup (bs.map letD) := by
  unfold letB at h
  split at h
  · rename_i ls
    rw [Bool.and_eq_true, decide_eq_true_eq] at h
    refine ⟨ls.map fun d => match d with
      | .str s => decide (s = ">")
      | _ => false, by rw [List.length_map]; exact h.1, ?_⟩
    rw [List.map_map]
    congr 1
    conv => lhs; rw [← List.map_id ls]
    apply List.map_congr_left
    intro d hd
    have := List.all_eq_true.mp h.2 d hd
    cases d with
    | str s =>
      show D.str s = letD (decide (s = ">"))
      have this : (decide (s = ">") || decide (s = "<")) = true := this
      rw [Bool.or_eq_true, decide_eq_true_eq, decide_eq_true_eq] at this
      rcases this with rfl | rfl <;> rfl
    | _ => cases this
  · cases h
theorem let_ok (bs : List Bool) : letB bs.length (.tup (bs.map letD)) = true := by
  show (decide ((bs.map letD).length = bs.length) && (bs.map letD).all isLet) = true
  rw [List.length_map, decide_eq_true rfl, Bool.true_and, List.all_map, List.all_eq_true]
  intro b _
  cases b <;> decide
/-- the look at one letter -/
theorem letter_ev {Φ : Md} {ρ : Rho} {μ : Mu} {v : Nat} {d : D} {l : IE} {x : D} (hv : ρ[v]? = some (some d)) (ok : okD d = true) (hl : ev Φ l ρ μ x) (hx : items μ x = some [.str ">", .str "<"]) :
    ev Φ (.and (.inst (.var v) .str) (.cmp .isin (.var v) l)) ρ μ (.bl (isLet d)) := by
  have e1 := ev_inst (Φ := Φ) (t := .str) (ev_var (μ := μ) hv) (okD_ty ok)
  cases d with
  | str s =>
    have := ev_and e1 fun _ => ev_cmp (o := .isin) (p := inSeq (.str s) [.str ">", .str "<"]) (ev_var hv) hl fun R z => .inl ⟨_, hx, rfl, rfl, z⟩
    have e2 : (isTy .str (.str s) && inSeq (.str s) [.str ">", .str "<"]) = isLet (.str s) := by
      show (true && (eqF (.str ">") (.str s) || (eqF (.str "<") (.str s) || false))) = _
      rw [eqF_str, eqF_str, Bool.or_false, Bool.true_and] <;> rfl
    rw [e2] at this
    exact this
  | _ => exact ev_and (q := false) e1 fun z => by cases z
theorem letters_ev {Φ : Md} {ρ : Rho} {μ : Mu} {v t : Nat} {ls : List D} {l : IE} {x : D} (hv : ρ[v]? = some (some (.tup ls))) (ht : ∀ d, ((wipeD ρ [t]).set t (some d))[t]? = some (some d)) (ok : okDs ls = true) (hl : ∀ d, ev Φ l ((wipeD ρ [t]).set t (some d)) μ x) (hx : items μ x = some [.str ">", .str "<"]) (hn : ls.length ≤ lim) :
    ev Φ (.bi .all false (.cs (.lc false (.and (.inst (.var t) .str) (.cmp .isin (.var t) l)) [t] false (.var v) false .nl [t]) .nl)) ρ μ (.bl (ls.all isLet)) := by
  have e1 := ev_lc (Φ := Φ) (μ := μ) (ρ := ρ) (c := .nl) (el := .and (.inst (.var t) .str) (.cmp .isin (.var t) l)) (it := .var v) (tg := [t]) (own := [t]) (tp := false) (f := fun d => .bl (isLet d)) (evP_var hv rfl).i hn (fun d hd R q => q _ (letter_ev (ht d) (okDs_mem ok hd) (hl d) hx))
  have e2 : ls.map (fun d => D.bl (isLet d)) = (ls.map isLet).map D.bl := by rw [List.map_map] <;> rfl
  rw [e2] at e1
  have e3 := ev_all (m := false) e1
  rw [List.all_map] at e3
  exact e3
def sp_are_letters : DSp := sp2 fun x y μ R X => ∃ n ts, x = webD n ts ∧ okD y = true ∧ lenOk y ∧ R (.bl (letB ts.length y)) μ
theorem m_are_letters {Φ : Md} (t1 : Φ.txs "FORWARD" = some ">") (t2 : Φ.txs "BACK" = some "<") : ∀ x y μ R X, (∃ n ts, x = webD n ts ∧ okD y = true ∧ lenOk y ∧ R (.bl (letB ts.length y)) μ) → semS Φ i_are_letters (startD 3 [x, y]) μ (dEnd R X) := by
  rintro _ y μ R X ⟨n, ts, rfl, ok, hl, q⟩
  have e0 : evT Φ (.not (.inst (.var 1) .tuple)) (startD 3 [webD n ts, y]) μ (!isTy .tuple y) := evT_not (evT_inst (ev_var (d := y) rfl) (okD_ty ok))
  cases y with
  | tup ls =>
    have e1 : evT Φ (.cmp .ne (.bi .len false (.cs (.var 1) .nl)) (.bi .len false (.cs (.idx (.var 0) (.int 1)) .nl))) (startD 3 [webD n ts, .tup ls]) μ (!decide (((ls.length : Nat) : Int) = (((ts.map pairD).length : Nat) : Int))) := evT_cmp (ev_len (ev_var (i := 1) (d := .tup ls) rfl) rfl) (ev_len (ev_idx (d := .tup (ts.map pairD)) (ev_var (i := 0) (d := webD n ts) rfl) ev_int rfl rfl) rfl) fun R z => cmp_ne z
    have n1 : decide (((ls.length : Nat) : Int) = (((ts.map pairD).length : Nat) : Int)) = decide (ls.length = ts.length) := decide_eq_decide.mpr (by rw [List.length_map]; omega)
    rw [n1] at e1
    have hl : ls.length ≤ 900000 := hl
    refine if_ev (evT_or e0 fun _ => e1) (fun z => ?_) (fun z => ?_)
    · have z : (!decide (ls.length = ts.length)) = true := z
      rw [Bool.not_eq_true'] at z
      have : letB ts.length (.tup ls) = false := by
        show (decide (ls.length = ts.length) && _) = false
        rw [z] <;> rfl
      rw [this] at q
      exact ret_E ev_bl (ret0 (X := X) q)
    · have z : (!decide (ls.length = ts.length)) = false := z
      rw [Bool.not_eq_false'] at z
      have : letB ts.length (.tup ls) = ls.all isLet := by
        show (decide (ls.length = ts.length) && _) = _
        rw [z] <;> rfl
      rw [this] at q
      exact ret_ev (letters_ev (x := .tup [.str ">", .str "<"]) (v := 1) rfl (fun d => rfl) ok (fun d => ev_tup (evA_cs (ev_globS t1) (evA_cs (ev_globS t2) evA_nl))) rfl (by unfold lim; omega)) q
  | _ => exact if_ev (p := true) (evT_or (p := true) (q := true) e0 fun z => by cases z) (fun _ => ret_E ev_bl (ret0 (X := X) q)) (fun z => by cases z)
/-! ### what lies behind -/
def arrB (zs : List ((Nat × Nat) × Bool)) (i j : Nat) : Bool := zs.any fun z => if z.2 then decide (z.1.1 = i) && decide (z.1.2 = j) else decide (z.1.2 = i) && decide (z.1.1 = j)
def KeysN (n : Nat) (ks : List (Key × D)) : Prop := ∀ p, p ∈ ks → ∃ k : Nat, k < n ∧ p.1 = .inl (k : Int)
theorem keys_set {ks : List (Key × D)} {k : Nat} {v : D} {n : Nat} (h : KeysN n ks) (hk : k < n) : KeysN n (setK ks (.inl (k : Int)) v) := fun p hp => by
  unfold setK at hp
  split at hp
  · obtain ⟨q, hq, rfl⟩ := List.mem_map.mp hp
    obtain ⟨j, hj, e⟩ := h q hq
    refine ⟨j, hj, ?_⟩
    split <;> exact e
  · rcases List.mem_append.mp hp with hp | hp
    · exact h p hp
    · rw [List.mem_singleton.mp hp]
      exact ⟨k, hk, rfl⟩
structure Behind (n : Nat) (zs : List ((Nat × Nat) × Bool)) (ks : List (List (Key × D))) : Prop where
  l : ks.length = n
  h : ∀ i j, i < n → hasK (ks.getD i []) (.inl ((j : Nat) : Int)) = arrB zs i j
  k : ∀ r, r ∈ ks → KeysN n r
  s : ∀ r, r ∈ ks → r.length ≤ 900000
theorem key_eq (u v : Nat) : decide ((Sum.inl (u : Int) : Key) = .inl (v : Int)) = decide (u = v) := by
  by_cases q : u = v
  · subst q; rw [decide_eq_true rfl, decide_eq_true rfl]
  · rw [decide_eq_false q, decide_eq_false]
    intro z
    injection z with z
    exact q (by omega)
def sp_behind_of : DSp := sp2 fun x y μ R X => ∃ n ts, ∃ bs : List Bool, x = webD n ts ∧ y = .tup (bs.map letD) ∧ (∀ p, p ∈ ts → p.1 < n ∧ p.2 < n) ∧ n ≤ 1000 ∧ ts.length ≤ 900000 ∧ ∀ ks, Behind n (ts.zip bs) ks → R (.lst (ks.map .dK)) μ
theorem forP_evP {Φ : Md} {ρ : Rho} {μ : Mu} {E : End} {rest b : IS} {it : IE} {ts : List T2} {ds : List D} (h : evP Φ it ρ μ ds) (k : forT (fun _ => True) (bind2 ts) (fun ρ μ E => semS Φ b ρ μ E) ds ρ μ { E with nx := fun ρ1 μ1 => semS Φ rest ρ1 μ1 E }) : semS Φ (.sq (.forP ts it b) rest) ρ μ E := h _ _ k
theorem m_behind_of {Φ : Md} (t1 : Φ.txs "FORWARD" = some ">") : ∀ x y μ R X, (∃ n ts, ∃ bs : List Bool, x = webD n ts ∧ y = .tup (bs.map letD) ∧ (∀ p, p ∈ ts → p.1 < n ∧ p.2 < n) ∧ n ≤ 1000 ∧ ts.length ≤ 900000 ∧ ∀ ks, Behind n (ts.zip bs) ks → R (.lst (ks.map .dK)) μ) → semS Φ i_behind_of (startD 7 [x, y]) μ (dEnd R X) := by
  rintro _ _ μ R X ⟨n, ts, bs, rfl, rfl, hts, hn, hl, hR⟩
  have w0 : ∀ (ρ : Rho) (μ : Mu), ρ[0]? = some (some (webD n ts)) → ev Φ (.idx (.var 0) (.int 0)) ρ μ (.int n) := fun ρ μ h => ev_idx (ev_var h) ev_int rfl rfl
  refine asg_sem ?_
  refine evP_rangeN (w0 _ _ rfl) hn _ _ ⟨by rw [List.length_map, List.length_range]; unfold lim; omega, ?_⟩
  refine turns_by (fun i acc μ1 => ∃ as, acc = as.map D.ref ∧ Cells μ μ1 as (List.replicate i (.dK []))) ⟨[], rfl, Cells.nil⟩ (fun i acc μ1 _ h => trivial) (fun i d acc μ1 K hd h k => ?_) (fun acc μ1 h => ?_)
  · obtain ⟨as, rfl, c⟩ := h
    intro a ha
    refine k _ _ ⟨as ++ [a], by rw [List.map_append] <;> rfl, ?_⟩
    rw [List.replicate_succ']
    exact c.add ha
  · obtain ⟨as, rfl, c⟩ := h
    rw [List.length_map, List.length_range] at c
    have hz : evP Φ (.zip (.idx (.var 0) (.int 1)) (.var 1)) [some (webD n ts), some (.tup (bs.map letD)), some (.lst (as.map D.ref)), none, none, none, none] μ1 ((ts.zip bs).map fun z => .tup [pairD z.1, letD z.2]) := by
      have := evP_zipT (Φ := Φ) (μ := μ1) (a := .idx (.var 0) (.int 1)) (b := .var 1) (ρ := [some (webD n ts), some (.tup (bs.map letD)), some (.lst (as.map D.ref)), none, none, none, none]) (as := ts.map pairD) (bs := bs.map letD) (ev_idx (ev_var (i := 0) (d := webD n ts) rfl) ev_int rfl rfl) (ev_var rfl)
      rw [List.zip_map, List.map_map] at this
      exact this
    have hzl : (ts.zip bs).length ≤ 900000 := by rw [List.length_zip]; omega
    have hzb : ∀ z, z ∈ ts.zip bs → z.1.1 < n ∧ z.1.2 < n := fun z hz => hts z.1 (List.of_mem_zip (a := z.1) (b := z.2) hz).1
    generalize ts.zip bs = zs at hz hR hzl hzb
    refine forP_evP hz ?_
    refine forT_by (fun i ρ1 μ2 => ∃ kss o p r, ρ1 = [some (webD n ts), some (.tup (bs.map letD)), some (.lst (as.map D.ref)), none, o, p, r] ∧ Cells μ μ2 as (kss.map MO.dK) ∧ kss.length = n ∧ (∀ x, x < n → (kss.getD x []).length ≤ i) ∧ (∀ x, x < n → KeysN n (kss.getD x [])) ∧
      ∀ x j, x < n → hasK (kss.getD x []) (.inl ((j : Nat) : Int)) = arrB (zs.take i) x j) ⟨List.replicate n [], none, none, none, rfl, by rw [List.map_replicate]; exact c, by simp, fun x hx => ?_, fun x hx => ?_, fun x j hx => ?_⟩ (fun _ _ _ _ _ => trivial) (fun i d ρ1 μ2 N hd h k => ?_) (fun ρ1 μ2 h => ?_)
    · rw [getD_rep, if_pos hx]
      exact Nat.zero_le _
    · rw [getD_rep, if_pos hx]
      exact fun _ z => by cases z
    · rw [getD_rep, if_pos hx] <;> rfl
    · obtain ⟨kss, o, p, r, rfl, c2, hk, hb, hkn, ha⟩ := h
      rw [List.getElem?_map] at hd
      obtain ⟨z, hz0, rfl⟩ := Option.map_eq_some_iff.mp hd
      have hil : i < zs.length := (List.getElem?_eq_some_iff.mp hz0).1
      obtain ⟨h1, h2⟩ := hzb z (List.mem_of_getElem? hz0)
      obtain ⟨⟨x, y⟩, b⟩ := z
      have h1 : x < n := h1
      have h2 : y < n := h2
      refine ⟨_, rfl, [.int x, .int y], rfl, rfl, ?_⟩
      show semS Φ (.sq (.ite _ _ _) .nop) [some (webD n ts), some (.tup (bs.map letD)), some (.lst (as.map D.ref)), none, some (natD x), some (natD y), some (letD b)] μ2 _
      -- one step: v behind u
      have step : ∀ (iu iv u v : Nat), u < n → v < n → [some (webD n ts), some (.tup (bs.map letD)), some (.lst (as.map D.ref)), none, some (natD x), some (natD y), some (letD b)][iu]? = some (some (natD u)) → [some (webD n ts), some (.tup (bs.map letD)), some (.lst (as.map D.ref)), none, some (natD x), some (natD y), some (letD b)][iv]? = some (some (natD v)) → (∀ x' j, arrB (zs.take (i + 1)) x' j = (arrB (zs.take i) x' j || (decide (u = x') && decide (v = j)))) → ∀ E : End, E.nx = N →
          semS Φ (.sq (.asg (.sub (.idx (.var 2) (.var iu)) (.var iv)) (.bl true)) .nop) [some (webD n ts), some (.tup (bs.map letD)), some (.lst (as.map D.ref)), none, some (natD x), some (natD y), some (letD b)] μ2 E := fun iu iv u v hu hv hiu hiv hstep E hE => by
        obtain ⟨a1, e1, e2, e3⟩ := c2.at (k := u) (m := .dK (kss.getD u [])) (by rw [List.getElem?_map, getD_some (by omega)] <;> rfl)
        refine asg_sub (x := .ref a1) (y := natD v) (d := .bl true) (ev_idxN (n := u) (ev_var (d := .lst (as.map D.ref)) rfl) (ev_var hiu) rfl rfl e2) (ev_var hiv) ev_bl (.inr ⟨a1, kss.getD u [], .inl v, rfl, rfl, e3, Nat.lt_of_le_of_lt (hb u hu) (by unfold lim; omega), ?_⟩)
        have c3 := c2.put (m := .dK (setK (kss.getD u []) (.inl (v : Int)) (.bl true))) e1
        rw [← List.map_set] at c3
        have hg3 : ∀ z, (kss.set u (setK (kss.getD u []) (.inl (v : Int)) (.bl true))).getD z [] = if z = u then setK (kss.getD u []) (.inl (v : Int)) (.bl true) else kss.getD z [] := fun z => getD_set (by omega)
        show E.nx _ _
        rw [hE]
        refine k _ _ ⟨_, _, _, _, rfl, c3, by rw [List.length_set]; exact hk, fun z hz => ?_, fun z hz => ?_, fun z j hz => ?_⟩
        · rw [hg3]
          split
          · exact Nat.le_trans len_setK (Nat.succ_le_succ (hb u hu))
          · exact Nat.le_succ_of_le (hb z hz)
        · rw [hg3]
          split
          · exact keys_set (hkn u hu) hv
          · exact hkn z hz
        · rw [hg3, hstep, ← ha z j hz]
          by_cases q : z = u
          · subst q
            rw [if_pos rfl, hasK_set, key_eq, decide_eq_true rfl, Bool.true_and, Bool.or_comm]
          · rw [if_neg q, decide_eq_false (fun h => q h.symm), Bool.false_and, Bool.or_false]
      have arr : ∀ x' j, arrB (zs.take (i + 1)) x' j = (arrB (zs.take i) x' j || (if b then decide (x = x') && decide (y = j) else decide (y = x') && decide (x = j))) := fun x' j => by
        rw [List.take_succ, hz0]
        unfold arrB
        rw [List.any_append]
        congr 1
        show ([((x, y), b)].any _) = _
        rw [List.any_cons, List.any_nil, Bool.or_false]
      refine if_ev (p := b) (evT_cmp (ev_var (i := 6) (d := .str (if b then ">" else "<")) rfl) (ev_globS t1) fun R z => cmp_eqs (by
        have : decide ((if b then (">" : Str) else "<") = ">") = b := by cases b <;> decide
        rw [this]
        exact z)) (fun z => ?_) (fun z => ?_)
      · subst z
        exact step 4 5 x y h1 h2 rfl rfl arr _ rfl
      · subst z
        exact step 5 4 y x h2 h1 rfl rfl arr _ rfl
    · obtain ⟨kss, o, p, r, rfl, c2, hk, hb, hkn, ha⟩ := h
      rw [List.length_map, List.take_length] at ha
      refine ret_sem (ev_var (d := .lst (as.map D.ref)) rfl _ _ (c2.ret ?_))
      rw [List.map_map]
      have row : ∀ r, r ∈ kss → ∃ j, j < n ∧ kss.getD j [] = r := fun r hr => by
        obtain ⟨j, hj, e⟩ := List.mem_iff_getElem.mp hr
        refine ⟨j, by omega, ?_⟩
        rw [List.getD_eq_getElem?_getD, List.getElem?_eq_getElem hj]
        exact e
      exact hR kss ⟨hk, ha, (fun r hr => by
        obtain ⟨j, hj, e⟩ := row r hr
        rw [← e]
        exact hkn j hj), fun r hr => by
        obtain ⟨j, hj, e⟩ := row r hr
        have := hb j hj
        rw [List.length_map] at this
        rw [← e]
        omega⟩
end PL
/-! C7: arrows that go on. -/
namespace PL
open PySem PySem.Spec PyProof.Rows L2 PySem.W

def Goes (n : Nat) (t : Nat → Nat → Bool) : Prop := ∀ i j k, i < n → j < n → k < n → t i j = true → t j k = true → t i k = true
def goesB (n : Nat) (t : Nat → Nat → Bool) : Bool := (List.range n).all fun i => (List.range n).all fun j => !(t i j && (List.range n).any fun k => t j k && !t i k)
theorem goes_iff {n : Nat} {t : Nat → Nat → Bool} : goesB n t = true ↔ Goes n t := by
  unfold goesB Goes
  simp only [List.all_eq_true, List.mem_range, Bool.not_eq_true', Bool.and_eq_false_iff, List.any_eq_false, Bool.and_eq_true, not_and, Bool.not_eq_false]
  constructor
  · intro h i j k hi hj hk p q
    rcases h i hi j hj with e | e
    · rw [p] at e; cases e
    · exact by
        have := e k hk q
        simpa using this
  · intro h i hi j hj
    cases p : t i j with
    | false => exact .inl rfl
    | true => exact .inr fun k hk q => by rw [h i j k hi hj hk p q]
theorem goes_congr {n : Nat} {t u : Nat → Nat → Bool} (h : ∀ i j, i < n → j < n → t i j = u i j) : goesB n t = goesB n u := by
  rw [Bool.eq_iff_iff, goes_iff, goes_iff]
  constructor
  · intro g i j k hi hj hk p q
    rw [← h i j hi hj] at p
    rw [← h j k hj hk] at q
    rw [← h i k hi hk]
    exact g i j k hi hj hk p q
  · intro g i j k hi hj hk p q
    rw [h i j hi hj] at p
    rw [h j k hj hk] at q
    rw [h i k hi hk]
    exact g i j k hi hj hk p q
theorem goes_no {n : Nat} {t : Nat → Nat → Bool} {i j k : Nat} (hi : i < n) (hj : j < n) (hk : k < n) (p : t i j = true) (q : t j k = true) (r : t i k = false) : goesB n t = false := by
  cases e : goesB n t with
  | false => rfl
  | true =>
    have := goes_iff.mp e i j k hi hj hk p q
    rw [r] at this
    cases this
def arrowsB (n : Nat) (ts : List (Nat × Nat)) (bs : List Bool) : Bool := goesB n (arrB (ts.zip bs))
theorem keyOf_keyD (k : Key) : keyOf (keyD k) = some k := by cases k <;> rfl
theorem has_mem {ks : List (Key × D)} {k : Key} (h : hasK ks k = true) : ∃ p, p ∈ ks ∧ p.1 = k := by
  rw [hasK_any, List.any_eq_true] at h
  obtain ⟨p, hp, e⟩ := h
  exact ⟨p, hp, of_decide_eq_true e⟩
theorem mem_has {ks : List (Key × D)} {p : Key × D} (h : p ∈ ks) : hasK ks p.1 = true := by
  rw [hasK_any, List.any_eq_true]
  exact ⟨p, h, decide_eq_true rfl⟩
def bitsOf : D → List Bool
  | .tup ls => ls.map fun d => match d with
    | .str s => decide (s = ">")
    | _ => false
  | _ => []
theorem bits_let (bs : List Bool) : bitsOf (.tup (bs.map letD)) = bs := by
  show (bs.map letD).map _ = bs
  rw [List.map_map]
  conv => rhs; rw [← List.map_id bs]
  apply List.map_congr_left
  intro b _
  cases b <;> rfl
def sp_are_arrows_of : DSp := sp2 fun x y μ R X => ∃ n ts, x = webD n ts ∧ okD y = true ∧ lenOk y ∧ (∀ p, p ∈ ts → p.1 < n ∧ p.2 < n) ∧ n ≤ 1000 ∧ ts.length ≤ 900000 ∧ R (.bl (letB ts.length y && arrowsB n ts (bitsOf y))) μ
theorem m_are_arrows_of {Φ : Md} (f1 : Φ.fns "are_letters" = some sp_are_letters) (f2 : Φ.fns "behind_of" = some sp_behind_of) : ∀ x y μ R X, (∃ n ts, x = webD n ts ∧ okD y = true ∧ lenOk y ∧ (∀ p, p ∈ ts → p.1 < n ∧ p.2 < n) ∧ n ≤ 1000 ∧ ts.length ≤ 900000 ∧ R (.bl (letB ts.length y && arrowsB n ts (bitsOf y))) μ) → semS Φ i_are_arrows_of (startD 6 [x, y]) μ (dEnd R X) := by
  rintro _ y μ R X ⟨n, ts, rfl, ok, hlo, hts, hn, hl, q⟩
  have e1 : evT Φ (.not (.call "are_letters" (.cs (.var 0) (.cs (.var 1) .nl)))) (startD 6 [webD n ts, y]) μ (!letB ts.length y) := evT_not (evT_call f1 (evA_cs (ev_var (d := webD n ts) rfl) (evA_cs (ev_var (d := y) rfl) evA_nl)) fun R X z => ⟨n, ts, rfl, ok, hlo, z⟩)
  refine if_ev e1 (fun z => ?_) (fun z => ?_)
  · rw [Bool.not_eq_true'] at z
    rw [z] at q
    exact ret_E ev_bl (ret0 (X := X) q)
  · rw [Bool.not_eq_false'] at z
    rw [z, Bool.true_and] at q
    obtain ⟨bs, hbl, rfl⟩ := let_form z
    rw [bits_let] at q
    refine asg_sem (call_sem f2 (evA_cs (ev_var (d := webD n ts) rfl) (evA_cs (ev_var (d := .tup (bs.map letD)) rfl) evA_nl) _ _ ⟨n, ts, bs, rfl, rfl, hts, hn, hl, fun ks B => ?_⟩))
    unfold arrowsB at q
    have hks : ∀ i, i < n → ks[i]? = some (ks.getD i []) := fun i hi => getD_some (by rw [B.l]; exact hi)
    have hkn : ∀ i, i < n → KeysN n (ks.getD i []) := fun i hi => B.k _ (List.mem_of_getElem? (hks i hi))
    show semS Φ _ [some (webD n ts), some (.tup (bs.map letD)), some (.lst (ks.map .dK)), none, none, none] μ _
    generalize hz : ts.zip bs = zs at B q
    refine for_evP (ds := ks.map .dK) (evP_var rfl rfl) ?_
    refine forT_by (fun i ρ1 μ1 => μ1 = μ ∧ (∃ o p, ρ1 = [some (webD n ts), some (.tup (bs.map letD)), some (.lst (ks.map .dK)), o, p, none]) ∧ ∀ i', i' < i → ∀ j k, j < n → k < n → arrB zs i' j = true → arrB zs j k = true → arrB zs i' k = true) ⟨rfl, ⟨none, none, rfl⟩, fun _ z => by omega⟩ (fun _ _ _ _ _ => trivial) (fun i d ρ1 μ1 N hd hh k => ?_) (fun ρ1 μ1 hh => ?_)
    · obtain ⟨rfl, ⟨o, p, rfl⟩, hp⟩ := hh
      rw [List.getElem?_map] at hd
      obtain ⟨row, hrow, rfl⟩ := Option.map_eq_some_iff.mp hd
      have hi : i < n := by
        have := (List.getElem?_eq_some_iff.mp hrow).1
        rw [B.l] at this
        exact this
      have er : ks.getD i [] = row := by
        rw [hks i hi] at hrow
        exact Option.some.inj hrow
      have hr : ∀ j : Nat, hasK row (.inl (j : Int)) = arrB zs i j := fun j => by rw [← er]; exact B.h i j hi
      have hrk : KeysN n row := by rw [← er]; exact hkn i hi
      show semS Φ (.sq _ .nop) [some (webD n ts), some (.tup (bs.map letD)), some (.lst (ks.map .dK)), some (.dK row), p, none] μ1 _
      refine for_evP (ds := row.map fun p => keyD p.1) (evP_var (x := .dK row) rfl rfl) ?_
      refine forT_by (fun j ρ1 μ2 => μ2 = μ1 ∧ (∃ p, ρ1 = [some (webD n ts), some (.tup (bs.map letD)), some (.lst (ks.map .dK)), some (.dK row), p, none]) ∧ ∀ e, e ∈ row.take j → ∀ m : Nat, e.1 = .inl (m : Int) → ∀ k, k < n → arrB zs m k = true → arrB zs i k = true) ⟨rfl, ⟨p, rfl⟩, fun _ z => by simp at z⟩ (fun _ _ _ _ _ => trivial) (fun j d ρ1 μ2 N' hd hh k' => ?_) (fun ρ1 μ2 hh => ?_)
      · obtain ⟨rfl, ⟨p, rfl⟩, hp2⟩ := hh
        rw [List.getElem?_map] at hd
        obtain ⟨e, he, rfl⟩ := Option.map_eq_some_iff.mp hd
        have hem := List.mem_of_getElem? he
        obtain ⟨m, hm, ek⟩ := hrk e hem
        have hkd : keyD e.1 = natD m := by rw [ek] <;> rfl
        rw [hkd]
        show semS Φ (.sq (.ite _ _ _) .nop) [some (webD n ts), some (.tup (bs.map letD)), some (.lst (ks.map .dK)), some (.dK row), some (natD m), none] μ2 _
        have c1 := ev_lc (Φ := Φ) (μ := μ2) (ρ := [some (webD n ts), some (.tup (bs.map letD)), some (.lst (ks.map .dK)), some (.dK row), some (natD m), none]) (c := .nl) (el := .cmp .isin (.var 5) (.var 3)) (it := .idx (.var 2) (.var 4)) (tg := [5]) (own := [5]) (tp := false) (ds := (ks.getD m []).map fun p => keyD p.1) (f := fun d => match keyOf d with
          | some l => .bl (hasK row l)
          | none => .non) (evP_idx (d := .dK (ks.getD m [])) (ev_var (i := 2) (d := .lst (ks.map .dK)) rfl) (ev_var (i := 4) (d := natD m) rfl) rfl (atI_nat (by rw [List.getElem?_map, hks m hm] <;> rfl)) rfl).i (by
            rw [List.length_map]
            have := B.s _ (List.mem_of_getElem? (hks m hm))
            unfold lim
            omega) (fun d hd R q => by
            obtain ⟨e2, he2, rfl⟩ := List.mem_map.mp hd
            refine q _ ?_
            rw [keyOf_keyD]
            exact ev_cmp (o := .isin) (ev_var (i := 5) (d := keyD e2.1) rfl) (ev_var (i := 3) (d := .dK row) rfl) fun R z => .inr (.inl ⟨row, e2.1, rfl, keyOf_keyD _, z⟩))
        have c2 : ((ks.getD m []).map fun p => keyD p.1).map (fun d => match keyOf d with
          | some l => D.bl (hasK row l)
          | none => .non) = ((ks.getD m []).map fun p => hasK row p.1).map D.bl := by
          rw [List.map_map, List.map_map]
          apply List.map_congr_left
          intro e2 _
          show (match keyOf (keyD e2.1) with
            | some l => D.bl (hasK row l)
            | none => .non) = _
          rw [keyOf_keyD] <;> rfl
        rw [c2] at c1
        have c3 := evT_not (evT_all (m := false) c1)
        rw [List.all_map] at c3
        have him : arrB zs i m = true := by
          rw [← hr m, ← ek]
          exact mem_has hem
        refine if_ev c3 (fun z => ?_) (fun z => ?_)
        · rw [Bool.not_eq_true', List.all_eq_false] at z
          obtain ⟨e2, he2, z⟩ := z
          obtain ⟨l, hl2, ek2⟩ := hkn m hm e2 he2
          have z : ¬ hasK row e2.1 = true := z
          rw [Bool.not_eq_true, ek2, hr l] at z
          have hml : arrB zs m l = true := by
            rw [← B.h m l hm, ← ek2]
            exact mem_has he2
          rw [goes_no hi hm hl2 him hml z] at q
          exact ret_E ev_bl (ret0 (X := X) q)
        · rw [Bool.not_eq_false', List.all_eq_true] at z
          refine k' _ _ ⟨rfl, ⟨_, rfl⟩, fun e2 he2 m2 em2 l hl2 hml => ?_⟩
          rw [List.take_succ, he] at he2
          rcases List.mem_append.mp he2 with he2 | he2
          · exact hp2 e2 he2 m2 em2 l hl2 hml
          · have : e2 = e := by simpa using he2
            subst this
            rw [ek] at em2
            have : m2 = m := by
              injection em2 with em2
              omega
            subst this
            rw [← B.h m2 l hm] at hml
            obtain ⟨e3, he3, ek3⟩ := has_mem hml
            have := z e3 he3
            have this : hasK row e3.1 = true := this
            rw [ek3, hr l] at this
            exact this
      · obtain ⟨rfl, ⟨p, rfl⟩, hp2⟩ := hh
        rw [List.length_map, List.take_length] at hp2
        refine k _ _ ⟨rfl, ⟨_, _, rfl⟩, fun i' hi' j l hj hl2 p1 p2 => ?_⟩
        rcases Nat.lt_succ_iff_lt_or_eq.mp hi' with hi' | rfl
        · exact hp i' hi' j l hj hl2 p1 p2
        · rw [← hr j] at p1
          obtain ⟨e3, he3, ek3⟩ := has_mem p1
          exact hp2 e3 he3 j ek3 l hl2 p2
    · obtain ⟨rfl, ⟨o, p, rfl⟩, hp⟩ := hh
      rw [List.length_map, B.l] at hp
      have : goesB n (arrB zs) = true := goes_iff.mpr fun i j l hi hj hl2 p1 p2 => hp i hi j l hj hl2 p1 p2
      rw [this] at q
      exact ret_ev ev_bl q
def sp_need_arrows : DSp := sp2 fun x y μ R X => okD x = true ∧ webLen x ∧ okD y = true ∧ lenOk y ∧ (isWebB x = false → X ⟨"NoWeb", []⟩ μ) ∧ (isWebB x = true → ∃ n ts, x = webD n ts ∧ ((letB ts.length y && arrowsB n ts (bitsOf y)) = true → R .non μ) ∧ ((letB ts.length y && arrowsB n ts (bitsOf y)) = false → X ⟨"NoArrows", []⟩ μ))
theorem web_good {n : Nat} {ts : List (Nat × Nat)} (h : isWebB (webD n ts) = true) : 1 ≤ n ∧ n ≤ 24 ∧ ∀ p, p ∈ ts → p.1 < p.2 ∧ p.2 < n := by
  have h : (btw (.int n) 1 24 && ((ts.map pairD).all (isTieB n) && ascP (ts.map pairD))) = true := h
  rw [Bool.and_eq_true, Bool.and_eq_true] at h
  have h1 : (decide ((1 : Int) ≤ n) && decide ((n : Int) ≤ 24)) = true := h.1
  rw [Bool.and_eq_true, decide_eq_true_eq, decide_eq_true_eq] at h1
  refine ⟨by omega, by omega, fun p hp => ?_⟩
  have := List.all_eq_true.mp h.2.1 (pairD p) (List.mem_map.mpr ⟨p, hp, rfl⟩)
  obtain ⟨i, j, e, h2, h3, h4⟩ := tie_form this
  have e1 : D.tup [.int p.1, .int p.2] = D.tup [.int i, .int j] := e
  injection e1 with e1
  injection e1 with e2 e3
  injection e2 with e2
  injection e3 with e3 _
  injection e3 with e3
  omega
theorem m_need_arrows {Φ : Md} (f1 : Φ.fns "need_web" = some sp_need_web) (f2 : Φ.fns "are_arrows_of" = some sp_are_arrows_of) (o : Φ.own "NoArrows" = true) : ∀ x y μ R X, (okD x = true ∧ webLen x ∧ okD y = true ∧ lenOk y ∧ (isWebB x = false → X ⟨"NoWeb", []⟩ μ) ∧ (isWebB x = true → ∃ n ts, x = webD n ts ∧ ((letB ts.length y && arrowsB n ts (bitsOf y)) = true → R .non μ) ∧ ((letB ts.length y && arrowsB n ts (bitsOf y)) = false → X ⟨"NoArrows", []⟩ μ))) → semS Φ i_need_arrows (startD 2 [x, y]) μ (dEnd R X) := by
  rintro x y μ R X ⟨h1, h2, h3, h4, q1, q2⟩
  refine expr_sem (call_sem f1 (evA_cs (ev_var (d := x) rfl) evA_nl _ _ ⟨h1, h2, fun z => ?_, fun z => ⟨fun _ => true, q1 z⟩⟩))
  obtain ⟨n, ts, rfl, r1, r2⟩ := q2 z
  obtain ⟨g1, g2, g3⟩ := web_good z
  have h2 : (ts.map pairD).length ≤ 900000 := h2
  rw [List.length_map] at h2
  have e : evT Φ (.not (.call "are_arrows_of" (.cs (.var 0) (.cs (.var 1) .nl)))) (startD 2 [webD n ts, y]) μ (!(letB ts.length y && arrowsB n ts (bitsOf y))) := evT_not (evT_call f2 (evA_cs (ev_var (d := webD n ts) rfl) (evA_cs (ev_var (d := y) rfl) evA_nl)) fun R X z => ⟨n, ts, rfl, h3, h4, fun p hp => ⟨by have := g3 p hp; omega, (g3 p hp).2⟩, by omega, h2, z⟩)
  refine if_ev e (fun z => ?_) (fun z => ?_)
  · exact ⟨o, fun _ => true, r2 (by rw [Bool.not_eq_true'] at z; exact z)⟩
  · exact ⟨fun _ => true, r1 (by rw [Bool.not_eq_false'] at z; exact z)⟩
end PL
/-! C8: letters, arrows, webs, as the law sees them. -/
namespace PL
open PySem PySem.Spec PyProof.Rows L2 PySem.W

def sp_arrow_table : DSp := sp2 fun x y μ R X => ∃ n ts, ∃ bs : List Bool, x = webD n ts ∧ y = .tup (bs.map letD) ∧ bs.length = ts.length ∧ (∀ p, p ∈ ts → p.1 < n ∧ p.2 < n) ∧ n ≤ 1000 ∧ ts.length ≤ 900000 ∧ R (matD n (arrB (ts.zip bs))) μ
theorem m_arrow_table {Φ : Md} : ∀ x y μ R X, (∃ n ts, ∃ bs : List Bool, x = webD n ts ∧ y = .tup (bs.map letD) ∧ bs.length = ts.length ∧ (∀ p, p ∈ ts → p.1 < n ∧ p.2 < n) ∧ n ≤ 1000 ∧ ts.length ≤ 900000 ∧ R (matD n (arrB (ts.zip bs))) μ) → semS Φ i__law_arrow_table (startD 7 [x, y]) μ (dEnd R X) := by
  rintro _ _ μ R X ⟨n, ts, bs, rfl, rfl, hbl, hts, hn, hl, q⟩
  have w0 : ∀ (ρ : Rho) (μ : Mu), ρ[0]? = some (some (webD n ts)) → ev Φ (.idx (.var 0) (.int 0)) ρ μ (.int n) := fun ρ μ h => ev_idx (ev_var h) ev_int rfl rfl
  refine asg_sem (grid_sem (n := n) (evP_rangeN (w0 _ _ rfl) hn) (by rw [List.length_map, List.length_range]) hn (fun d μ' => w0 _ _ rfl) fun as μ1 g => ?_)
  have er := evP_range1 (Φ := Φ) (μ := μ1) (ρ := [some (webD n ts), some (.tup (bs.map letD)), some (.lst (as.map D.ref)), none, none, none, none]) (a := .bi .len false (.cs (.var 1) .nl)) (ev_len (ev_var (i := 1) (d := .tup (bs.map letD)) rfl) rfl) (by rw [List.length_map]; unfold lim; omega) (by unfold lim; omega)
  rw [Int.toNat_natCast, List.length_map] at er
  have hzl : (ts.zip bs).length = bs.length := by rw [List.length_zip]; omega
  refine for_evP er ?_
  refine forT_by (fun i ρ1 μ2 => ∃ rows o p r, ρ1 = [some (webD n ts), some (.tup (bs.map letD)), some (.lst (as.map D.ref)), none, o, p, r] ∧ Grid μ μ2 as n rows ∧ ∀ x y, atB rows x y = arrB ((ts.zip bs).take i) x y) ⟨_, none, none, none, rfl, g, fun x y => by rw [at_false] <;> rfl⟩ (fun _ _ _ _ _ => trivial) (fun i d ρ1 μ2 N hd h k => ?_) (fun ρ1 μ2 h => ?_)
  · obtain ⟨rows, o, p, r, rfl, g2, ha⟩ := h
    have hi : i < bs.length := by
      have := (List.getElem?_eq_some_iff.mp hd).1
      simpa using this
    rw [range_at hi] at hd
    cases hd
    have ht : ts[i]? = some ts[i] := List.getElem?_eq_getElem (by omega)
    have hb : bs[i]? = some bs[i] := List.getElem?_eq_getElem hi
    obtain ⟨h1, h2⟩ := hts _ (List.mem_of_getElem? ht)
    have hz0 : (ts.zip bs)[i]? = some (ts[i], bs[i]) := List.getElem?_zip_eq_some.mpr ⟨ht, hb⟩
    generalize ts[i] = pr at ht h1 h2 hz0
    generalize bs[i] = b at hb hz0
    obtain ⟨x, y⟩ := pr
    have h1 : x < n := h1
    have h2 : y < n := h2
    show semS Φ (.sq _ _) [some (webD n ts), some (.tup (bs.map letD)), some (.lst (as.map D.ref)), none, some (natD i), p, r] μ2 _
    refine unp_ev (ds := [.int x, .int y]) (ev_idxN (n := i) (ev_idx (d := .tup (ts.map pairD)) (ev_var (i := 0) (d := webD n ts) rfl) ev_int rfl rfl) (ev_var (i := 4) (d := natD i) rfl) rfl rfl (by rw [List.getElem?_map, ht] <;> rfl)) rfl ?_
    show semS Φ (.sq (.ite _ _ _) .nop) [some (webD n ts), some (.tup (bs.map letD)), some (.lst (as.map D.ref)), none, some (natD i), some (natD x), some (natD y)] μ2 _
    have arr : ∀ x' j, arrB ((ts.zip bs).take (i + 1)) x' j = (arrB ((ts.zip bs).take i) x' j || (if b then decide (x = x') && decide (y = j) else decide (y = x') && decide (x = j))) := fun x' j => by
      rw [List.take_succ, hz0]
      unfold arrB
      rw [List.any_append]
      congr 1
      show ([((x, y), b)].any _) = _
      rw [List.any_cons, List.any_nil, Bool.or_false]
    have fin : ∀ (u v : Nat) (rows' : List (List Bool)), u < n → v < n → rows' = setB rows u v true → (∀ x' j, arrB ((ts.zip bs).take (i + 1)) x' j = (arrB ((ts.zip bs).take i) x' j || (decide (u = x') && decide (v = j)))) → ∀ x' j, atB rows' x' j = arrB ((ts.zip bs).take (i + 1)) x' j := fun u v rows' hu hv e hs x' j => by
      rw [e, at_set g2 hu hv, hs, ← ha x' j]
      split
      · rename_i z
        rw [decide_eq_true z.1.symm, decide_eq_true z.2.symm] <;> simp
      · rename_i z
        have : (decide (u = x') && decide (v = j)) = false := by
          rw [← Bool.decide_and]
          exact decide_eq_false fun w => z ⟨w.1.symm, w.2.symm⟩
        rw [this, Bool.or_false]
    refine if_ev (p := b) (evT_cmp (x := .str (if b then ">" else "<")) (ev_idxN (n := i) (ev_var (i := 1) (d := .tup (bs.map letD)) rfl) (ev_var (i := 4) (d := natD i) rfl) rfl rfl (by rw [List.getElem?_map, hb] <;> rfl)) ev_str fun R z => cmp_eqs (by
        have : decide ((if b then (">" : Str) else "<") = ">") = b := by cases b <;> decide
        rw [this]
        exact z)) (fun z => ?_) (fun z => ?_)
    · subst z
      exact asgG ev_bl (g2.put (i := x) (j := y) (ev_var rfl) (ev_var rfl) (ev_var rfl) rfl h1 h2 hn fun μ3 g3 => k _ _ ⟨_, _, _, _, rfl, g3, fin x y _ h1 h2 rfl arr⟩)
    · subst z
      exact asgG ev_bl (g2.put (i := y) (j := x) (ev_var rfl) (ev_var rfl) (ev_var rfl) rfl h2 h1 hn fun μ3 g3 => k _ _ ⟨_, _, _, _, rfl, g3, fin y x _ h2 h1 rfl arr⟩)
  · obtain ⟨rows, o, p, r, rfl, g2, ha⟩ := h
    rw [List.length_map, List.length_range, ← hzl, List.take_length] at ha
    refine ret_sem (ev_var (i := 2) (d := .lst (as.map D.ref)) rfl _ _ (g2.ret ?_))
    rw [mat_congr (fun i j _ _ => ha i j)]
    exact q
def sp_goes_on : DSp := sp1 fun x μ R X => ∃ n t, x = matD n t ∧ n ≤ 1000 ∧ R (.bl (goesB n t)) μ
theorem m_goes_on {Φ : Md} : ∀ x μ R X, (∃ n t, x = matD n t ∧ n ≤ 1000 ∧ R (.bl (goesB n t)) μ) → semS Φ i__law_goes_on (startD 5 [x]) μ (dEnd R X) := by
  rintro _ μ R X ⟨n, t, rfl, hn, q⟩
  refine asg_ev (len_mat (i := 0) rfl) ?_
  refine for_evP (evP_rangeN (ev_var (i := 1) (d := .int n) rfl) hn) ?_
  refine forT_by (fun i ρ1 μ1 => μ1 = μ ∧ (∃ o p, ρ1 = [some (matD n t), some (.int n), o, p, none]) ∧ ∀ i', i' < i → ∀ j k, j < n → k < n → t i' j = true → t j k = true → t i' k = true) ⟨rfl, ⟨none, none, rfl⟩, fun _ z => by omega⟩ (fun _ _ _ _ _ => trivial) (fun i d ρ1 μ1 N hd hh k => ?_) (fun ρ1 μ1 hh => ?_)
  · obtain ⟨rfl, ⟨o, p, rfl⟩, hp⟩ := hh
    have hi : i < n := by
      have := (List.getElem?_eq_some_iff.mp hd).1
      simpa using this
    rw [range_at hi] at hd
    cases hd
    show semS Φ (.sq _ .nop) [some (matD n t), some (.int n), some (natD i), p, none] μ1 _
    refine for_evP (evP_rangeN (ev_var (i := 1) (d := .int n) rfl) hn) ?_
    refine forT_by (fun j ρ1 μ2 => μ2 = μ1 ∧ (∃ p, ρ1 = [some (matD n t), some (.int n), some (natD i), p, none]) ∧ ∀ j', j' < j → ∀ k, k < n → t i j' = true → t j' k = true → t i k = true) ⟨rfl, ⟨p, rfl⟩, fun _ z => by omega⟩ (fun _ _ _ _ _ => trivial) (fun j d ρ1 μ2 N' hd hh k' => ?_) (fun ρ1 μ2 hh => ?_)
    · obtain ⟨rfl, ⟨p, rfl⟩, hp2⟩ := hh
      have hj : j < n := by
        have := (List.getElem?_eq_some_iff.mp hd).1
        simpa using this
      rw [range_at hj] at hd
      cases hd
      show semS Φ (.sq (.ite _ _ _) .nop) [some (matD n t), some (.int n), some (natD i), some (natD j), none] μ2 _
      have at2 : ∀ (o : Option D) (u v : Nat) (a b : Nat), [some (matD n t), some (.int n), some (natD i), some (natD j), o][u]? = some (some (natD a)) → [some (matD n t), some (.int n), some (natD i), some (natD j), o][v]? = some (some (natD b)) → a < n → b < n → ev Φ (.idx (.idx (.var 0) (.var u)) (.var v)) [some (matD n t), some (.int n), some (natD i), some (natD j), o] μ2 (.bl (t a b)) := fun o u v a b hu hv ha hb =>
        ev_idxN (n := b) (x := rowD n (t a)) (ev_idxN (n := a) (ev_var (d := matD n t) rfl) (ev_var hu) rfl rfl (range_at ha)) (ev_var hv) rfl rfl (range_at hb)
      have c1 := ev_lc (Φ := Φ) (μ := μ2) (ρ := [some (matD n t), some (.int n), some (natD i), some (natD j), none]) (c := .nl) (el := .and (.idx (.idx (.var 0) (.var 3)) (.var 4)) (.not (.idx (.idx (.var 0) (.var 2)) (.var 4)))) (it := .range1 (.var 1)) (tg := [4]) (own := [4]) (tp := false) (f := fun d => match d with
        | .int l => .bl (t j l.toNat && !t i l.toNat)
        | _ => .non) (evP_rangeN (ev_var (i := 1) (d := .int n) rfl) hn).i (by rw [List.length_map, List.length_range]; unfold lim; omega) (fun d hd R q => by
          obtain ⟨l, hl, rfl⟩ := List.mem_map.mp hd
          have hl := List.mem_range.mp hl
          exact q _ (ev_and (at2 _ 3 4 j l rfl rfl hj hl) fun _ => ev_not (at2 _ 2 4 i l rfl rfl hi hl)))
      have c2 : ((List.range n).map natD).map (fun d => match d with
        | .int l => D.bl (t j l.toNat && !t i l.toNat)
        | _ => .non) = ((List.range n).map fun k => t j k && !t i k).map D.bl := by rw [List.map_map, List.map_map] <;> rfl
      rw [c2] at c1
      have c3 := evT_any (m := false) c1
      rw [List.any_map] at c3
      refine if_ev (evT_and (evT_idx (at2 none 2 3 i j rfl rfl hi hj)) fun _ => c3) (fun z => ?_) (fun z => ?_)
      · rw [Bool.and_eq_true, List.any_eq_true] at z
        obtain ⟨z1, l, hl, z2⟩ := z
        have z2 : (t j l && !t i l) = true := z2
        rw [Bool.and_eq_true, Bool.not_eq_true'] at z2
        rw [goes_no hi hj (List.mem_range.mp hl) z1 z2.1 z2.2] at q
        exact ret_E ev_bl (ret0 (X := X) q)
      · refine k' _ _ ⟨rfl, ⟨_, rfl⟩, fun j' hj' l hl p1 p2 => ?_⟩
        rcases Nat.lt_succ_iff_lt_or_eq.mp hj' with hj' | rfl
        · exact hp2 j' hj' l hl p1 p2
        · rw [p1, Bool.true_and, List.any_eq_false] at z
          have := z l (List.mem_range.mpr hl)
          have this : ¬ (t j' l && !t i l) = true := this
          rw [p2] at this
          simpa using this
    · obtain ⟨rfl, ⟨p, rfl⟩, hp2⟩ := hh
      rw [List.length_map, List.length_range] at hp2
      refine k _ _ ⟨rfl, ⟨_, _, rfl⟩, fun i' hi' j l hj hl p1 p2 => ?_⟩
      rcases Nat.lt_succ_iff_lt_or_eq.mp hi' with hi' | rfl
      · exact hp i' hi' j l hj hl p1 p2
      · exact hp2 j hj l hl p1 p2
  · obtain ⟨rfl, ⟨o, p, rfl⟩, hp⟩ := hh
    rw [List.length_map, List.length_range] at hp
    have : goesB n t = true := goes_iff.mpr fun i j l hi hj hl p1 p2 => hp i hi j l hj hl p1 p2
    rw [this] at q
    exact ret_ev ev_bl q
def sp_law_arrows : DSp := sp2 fun x y μ R X => ∃ n ts, ∃ bs : List Bool, x = webD n ts ∧ y = .tup (bs.map letD) ∧ bs.length = ts.length ∧ (∀ p, p ∈ ts → p.1 < n ∧ p.2 < n) ∧ n ≤ 1000 ∧ ts.length ≤ 900000 ∧ R (.bl (arrowsB n ts bs)) μ
theorem okDs_lets (bs : List Bool) : okDs (bs.map letD) = true := by
  induction bs with
  | nil => rfl
  | cons b bs ih =>
    rw [List.map_cons, okDs, ih]
    rfl
theorem m_law_arrows {Φ : Md} (f1 : Φ.fns "_law_goes_on" = some sp_goes_on) (f2 : Φ.fns "_law_arrow_table" = some sp_arrow_table) : ∀ x y μ R X, (∃ n ts, ∃ bs : List Bool, x = webD n ts ∧ y = .tup (bs.map letD) ∧ bs.length = ts.length ∧ (∀ p, p ∈ ts → p.1 < n ∧ p.2 < n) ∧ n ≤ 1000 ∧ ts.length ≤ 900000 ∧ R (.bl (arrowsB n ts bs)) μ) → semS Φ i__law_are_arrows (startD 3 [x, y]) μ (dEnd R X) := by
  rintro _ _ μ R X ⟨n, ts, bs, rfl, rfl, hbl, hts, hn, hl, q⟩
  have e0 : evT Φ (.not (.inst (.var 1) .tuple)) (startD 3 [webD n ts, .tup (bs.map letD)]) μ false := evT_not (evT_inst (ev_var (d := .tup (bs.map letD)) rfl) rfl)
  have e1 : evT Φ (.cmp .ne (.bi .len false (.cs (.var 1) .nl)) (.bi .len false (.cs (.idx (.var 0) (.int 1)) .nl))) (startD 3 [webD n ts, .tup (bs.map letD)]) μ false := evT_cmp (ev_len (ev_var (i := 1) (d := .tup (bs.map letD)) rfl) rfl) (ev_len (ev_idx (d := .tup (ts.map pairD)) (ev_var (i := 0) (d := webD n ts) rfl) ev_int rfl rfl) rfl) fun R z => cmp_ne (by
    rw [List.length_map, List.length_map, hbl, decide_eq_true rfl]
    exact z)
  refine if_ev (p := false) (evT_or e0 fun _ => e1) (fun z => by cases z) (fun _ => ?_)
  have e2 := letters_ev (Φ := Φ) (μ := μ) (ρ := startD 3 [webD n ts, .tup (bs.map letD)]) (v := 1) (t := 2) (ls := bs.map letD) (l := .lst false (.cs (.str ">") (.cs (.str "<") .nl))) (x := .lst [.str ">", .str "<"]) rfl (fun d => rfl) (okDs_lets bs) (fun d => ev_lst (evA_cs ev_str (evA_cs ev_str evA_nl))) rfl (by rw [List.length_map]; unfold lim; omega)
  have e3 : (bs.map letD).all isLet = true := by
    have := let_ok bs
    have this : (decide ((bs.map letD).length = bs.length) && (bs.map letD).all isLet) = true := this
    rw [Bool.and_eq_true] at this
    exact this.2
  rw [e3] at e2
  have e2' : evT Φ (.bi .all false (.cs (.lc false (.and (.inst (.var 2) .str) (.cmp .isin (.var 2) (.lst false (.cs (.str ">") (.cs (.str "<") .nl))))) [2] false (.var 1) false .nl [2]) .nl)) (startD 3 [webD n ts, .tup (bs.map letD)]) μ true := evT_of (w := "") (z := "") (fun _ _ => rfl) e2
  refine if_ev (p := false) (evT_not e2') (fun z => by cases z) (fun _ => ?_)
  refine ret_semE (call_sem f1 (one_sem (call_sem f2 (evA_cs (ev_var (i := 0) (d := webD n ts) rfl) (evA_cs (ev_var (i := 1) (d := .tup (bs.map letD)) rfl) evA_nl) _ _ ⟨n, ts, bs, rfl, rfl, hbl, hts, hn, hl, ⟨n, _, rfl, hn, ret0 (X := X) q⟩⟩))))
/-! ### webs -/
theorem asc_ev {Φ : Md} {ρ : Rho} {μ : Mu} {xs : List D} {v t : Nat} (hv : ρ[v]? = some (some (.tup xs))) (hv2 : ∀ d, ((wipeD ρ [t]).set t (some d))[v]? = some (some (.tup xs))) (ht : ∀ d, ((wipeD ρ [t]).set t (some d))[t]? = some (some d)) (hl : xs.length ≤ lim) (h : ∀ k x y, xs[k]? = some x → xs[k + 1]? = some y → ∀ R : Bool → Prop, R (ltD x y) → opLt x y μ R) :
    ev Φ (.bi .all false (.cs (.lc false (.cmp .lt (.idx (.var v) (.bin .sub false (.var t) (.int 1))) (.idx (.var v) (.var t))) [t] false (.range2 (.int 1) (.bi .len false (.cs (.var v) .nl))) false .nl [t]) .nl)) ρ μ (.bl (ascP xs)) := by
  have hl' : xs.length ≤ 1000000 := hl
  have e1 : evI Φ (.range2 (.int 1) (.bi .len false (.cs (.var v) .nl))) ρ μ ((List.range (((xs.length : Nat) : Int) - 1).toNat).map fun k => D.int (1 + (k : Nat))) :=
    evI_range2 ev_int (ev_len (ev_var hv) rfl) (by unfold lim; omega) (by unfold lim; omega) (by unfold lim; omega) (by unfold lim; omega)
  have e2 := ev_lc (Φ := Φ) (μ := μ) (ρ := ρ) (c := .nl) (el := .cmp .lt (.idx (.var v) (.bin .sub false (.var t) (.int 1))) (.idx (.var v) (.var t))) (tg := [t]) (own := [t]) (tp := false) (f := fun d => match d with
    | .int i => .bl (ltD (xs.getD (i - 1).toNat .non) (xs.getD i.toNat .non))
    | _ => .non) e1 (by rw [List.length_map, List.length_range]; omega) (fun d hd R q => by
      obtain ⟨k, hk, rfl⟩ := List.mem_map.mp hd
      rw [List.mem_range] at hk
      have hk1 : k < xs.length := by omega
      have hk2 : k + 1 < xs.length := by omega
      have g1 : xs[k]? = some xs[k] := List.getElem?_eq_getElem hk1
      have g2 : xs[k + 1]? = some xs[k + 1] := List.getElem?_eq_getElem hk2
      refine q _ (ev_cmp (ev_idxN (n := k) (ev_var (hv2 _)) (ev_sub (ev_var (d := .int (1 + (k : Nat))) (ht _)) ev_int) rfl (by omega) g1) (ev_idxN (n := k + 1) (ev_var (hv2 _)) (ev_var (d := .int (1 + (k : Nat))) (ht _)) rfl (by omega) g2) fun R z => ?_)
      refine h k _ _ g1 g2 R ?_
      have n1 : (1 + (k : Int) - 1).toNat = k := by omega
      have n2 : (1 + (k : Int)).toNat = k + 1 := by omega
      rw [n1, n2, List.getD_eq_getElem?_getD, List.getD_eq_getElem?_getD, g1, g2] at z
      exact z)
  have e3 : (((List.range (((xs.length : Nat) : Int) - 1).toNat).map fun k => D.int (1 + (k : Nat))).map fun d => match d with
    | .int i => D.bl (ltD (xs.getD (i - 1).toNat .non) (xs.getD i.toNat .non))
    | _ => .non) = ((List.range (xs.length - 1)).map fun k => ltD (xs.getD k .non) (xs.getD (k + 1) .non)).map D.bl := by
    have n0 : (((xs.length : Nat) : Int) - 1).toNat = xs.length - 1 := by omega
    rw [n0, List.map_map, List.map_map]
    apply List.map_congr_left
    intro k _
    have n1 : (1 + (k : Int) - 1).toNat = k := by omega
    have n2 : (1 + (k : Int)).toNat = k + 1 := by omega
    show D.bl (ltD (xs.getD (1 + (k : Int) - 1).toNat .non) (xs.getD (1 + (k : Int)).toNat .non)) = _
    rw [n1, n2] <;> rfl
  rw [e3] at e2
  have e4 := ev_all (m := false) e2
  rw [List.all_map] at e4
  exact e4
def sp_law_web2 : DSp := sp1 fun x μ R X => ∃ n ts, x = webD n ts ∧ ts.length ≤ 900000 ∧ R (.bl (isWebB (webD n ts))) μ
theorem m_law_is_web {Φ : Md} : ∀ x μ R X, (∃ n ts, x = webD n ts ∧ ts.length ≤ 900000 ∧ R (.bl (isWebB (webD n ts))) μ) → semS Φ i__law_is_web (startD 5 [x]) μ (dEnd R X) := by
  rintro _ μ R X ⟨n, ts, rfl, hl, q⟩
  refine unp_ev (ds := [.int n, .tup (ts.map pairD)]) (ev_var rfl) rfl ?_
  show semS Φ (.sq _ _) [some (webD n ts), some (.int n), some (.tup (ts.map pairD)), none, none] μ _
  have q : R (.bl (btw (.int n) 1 24 && ((ts.map pairD).all (isTieB n) && ascP (ts.map pairD)))) μ := q
  have c1 := ev_lc (Φ := Φ) (μ := μ) (ρ := [some (webD n ts), some (.int n), some (.tup (ts.map pairD)), none, none]) (c := .nl) (el := .chain3 .le .lt .lt (.int 0) (.idx (.var 3) (.int 0)) (.idx (.var 3) (.int 1)) (.var 1)) (it := .var 2) (tg := [3]) (own := [3]) (tp := false) (f := fun d => .bl (isTieB n d)) (evP_var (x := .tup (ts.map pairD)) rfl rfl).i (by rw [List.length_map]; unfold lim; omega) (fun d hd R q => by
    obtain ⟨p, hp, rfl⟩ := List.mem_map.mp hd
    have i0 : ∀ (j : Int) (y : D), atI [D.int p.1, .int p.2] j = some y → ev Φ (.idx (.var 3) (.int j)) [some (webD n ts), some (.int n), some (.tup (ts.map pairD)), some (pairD p), none] μ y := fun j y h => ev_idx (ev_var (i := 3) (d := pairD p) rfl) ev_int rfl h
    have := ev_chain3 (Φ := Φ) (o1 := .le) (o2 := .lt) (o3 := .lt) (ev_int (n := 0)) (i0 0 (.int p.1) rfl) (i0 1 (.int p.2) rfl) (ev_var (i := 1) (d := .int n) rfl) (fun R z => cmp_le z) (fun _ R z => cmp_lt z) (fun _ _ R z => cmp_lt z)
    refine q _ ?_
    have e : isTieB n (pairD p) = (decide ((0 : Int) ≤ p.1) && (decide ((p.1 : Int) < p.2) && decide ((p.2 : Int) < n))) := by
      show ((decide (0 ≤ (p.1 : Int)) && decide ((p.1 : Int) ≤ n - 1)) && (decide ((p.1 : Int) + 1 ≤ p.2) && decide ((p.2 : Int) ≤ n - 1))) = _
      rw [← Bool.decide_and, ← Bool.decide_and, ← Bool.decide_and, ← Bool.decide_and, ← Bool.decide_and]
      exact decide_eq_decide.mpr (by omega)
    rw [e]
    exact this)
  have c2 : (ts.map pairD).map (fun d => D.bl (isTieB n d)) = ((ts.map pairD).map (isTieB n)).map D.bl := by rw [List.map_map (g := D.bl)] <;> rfl
  rw [c2] at c1
  have c3 := evT_not (evT_all (m := false) c1)
  rw [List.all_map] at c3
  have b1 : evT Φ (.chain .le .le (.int 1) (.var 1) (.int 24)) [some (webD n ts), some (.int n), some (.tup (ts.map pairD)), none, none] μ (btw (.int n) 1 24) := fun R X z =>
    ev_int _ _ (ev_var (i := 1) (d := .int n) rfl _ _ (by
      show (match decide ((1 : Int) ≤ n) with | true => _ | false => _)
      have z : R (decide ((1 : Int) ≤ n) && decide ((n : Int) ≤ 24)) μ := z
      cases h : decide ((1 : Int) ≤ n) with
      | true =>
        rw [h, Bool.true_and] at z
        exact ev_int _ _ z
      | false =>
        rw [h] at z
        exact z))
  refine if_ev (evT_or (evT_not b1) fun _ => c3) (fun z => ?_) (fun z => ?_)
  · have : (btw (.int n) 1 24 && ((ts.map pairD).all (isTieB n) && ascP (ts.map pairD))) = false := by
      cases h : btw (.int n) 1 24 with
      | false => rfl
      | true =>
        rw [h] at z
        have z : (!(ts.map pairD).all (isTieB n)) = true := z
        rw [Bool.not_eq_true'] at z
        rw [z] <;> rfl
    rw [this] at q
    exact ret_E ev_bl (ret0 (X := X) q)
  · rw [Bool.or_eq_false_iff, Bool.not_eq_false', Bool.not_eq_false'] at z
    have z2 : (ts.map pairD).all (isTieB n) = true := z.2
    rw [z.1, z2, Bool.true_and, Bool.true_and] at q
    refine ret_ev (asc_ev (v := 2) (t := 4) rfl (fun d => rfl) (fun d => rfl) (by rw [List.length_map]; unfold lim; omega) fun k x y e1 e2 R r => ?_) q
    obtain ⟨p, _, rfl⟩ := List.mem_map.mp (List.mem_of_getElem? e1)
    obtain ⟨p', _, rfl⟩ := List.mem_map.mp (List.mem_of_getElem? e2)
    exact lt_pair r
end PL
/-! C9: webs and arrows read; what comes out, what is due. -/
namespace PL
open PySem PySem.Spec PyProof.Rows L2 PySem.W

def mmP (p : Nat × Nat) : Nat × Nat := (min p.1 p.2, max p.1 p.2)
def fwB (p : Nat × Nat) : Bool := decide (p.1 < p.2)
theorem ev_min {Φ : Md} {ρ : Rho} {μ : Mu} {a : IE} {p : Nat × Nat} (h : ev Φ a ρ μ (pairD p)) : ev Φ (.bi .min false (.cs a .nl)) ρ μ (natD (min p.1 p.2)) := ev_bi (evA_cs h evA_nl) fun R z => ⟨[(p.1 : Int), (p.2 : Int)], rfl, (by show 0 < 2; decide), fun k hk hy => by
  have h1 := hy p.1 (by simp)
  have h2 := hy p.2 (by simp)
  have : k = ((min p.1 p.2 : Nat) : Int) := by
    simp only [List.mem_cons, List.not_mem_nil, or_false] at hk
    omega
  rw [this]
  exact z⟩
theorem ev_max {Φ : Md} {ρ : Rho} {μ : Mu} {a : IE} {p : Nat × Nat} (h : ev Φ a ρ μ (pairD p)) : ev Φ (.bi .max false (.cs a .nl)) ρ μ (natD (max p.1 p.2)) := ev_bi (evA_cs h evA_nl) fun R z => ⟨[(p.1 : Int), (p.2 : Int)], rfl, (by show 0 < 2; decide), fun k hk hy => by
  have h1 := hy p.1 (by simp)
  have h2 := hy p.2 (by simp)
  have : k = ((max p.1 p.2 : Nat) : Int) := by
    simp only [List.mem_cons, List.not_mem_nil, or_false] at hk
    omega
  rw [this]
  exact z⟩
theorem mm_ev {Φ : Md} {ρ : Rho} {μ : Mu} {t : Nat} {it : IE} {ps : List (Nat × Nat)} (hi : evP Φ it ρ μ (ps.map pairD)) (ht : ∀ d, ((wipeD ρ [t]).set t (some d))[t]? = some (some d)) (hl : ps.length ≤ 900000) :
    ev Φ (.bi .tuple false (.cs (.lc false (.tup (.cs (.bi .min false (.cs (.var t) .nl)) (.cs (.bi .max false (.cs (.var t) .nl)) .nl))) [t] false it false .nl [t]) .nl)) ρ μ (.tup ((ps.map mmP).map pairD)) := by
  have e1 := ev_lc (Φ := Φ) (μ := μ) (ρ := ρ) (c := .nl) (el := .tup (.cs (.bi .min false (.cs (.var t) .nl)) (.cs (.bi .max false (.cs (.var t) .nl)) .nl))) (it := it) (tg := [t]) (own := [t]) (tp := false) (f := fun d => match d with
    | .tup [.int i, .int j] => pairD (mmP (i.toNat, j.toNat))
    | _ => .non) hi.i (by rw [List.length_map]; unfold lim; omega) (fun d hd R q => by
      obtain ⟨p, hp, rfl⟩ := List.mem_map.mp hd
      exact q _ (ev_tup (evA_cs (ev_min (ev_var (ht _))) (evA_cs (ev_max (ev_var (ht _))) evA_nl))))
  have e2 : (ps.map pairD).map (fun d => match d with
    | .tup [.int i, .int j] => pairD (mmP (i.toNat, j.toNat))
    | _ => .non) = (ps.map mmP).map pairD := by rw [List.map_map, List.map_map] <;> rfl
  rw [e2] at e1
  exact ev_bi (evA_cs e1 evA_nl) fun R z => ⟨_, rfl, z⟩
theorem fw_ev {Φ : Md} {ρ : Rho} {μ : Mu} {t : Nat} {it g : IE} {ps : List (Nat × Nat)} (hi : evP Φ it ρ μ (ps.map pairD)) (ht : ∀ d, ((wipeD ρ [t]).set t (some d))[t]? = some (some d)) (hg : ∀ d, ev Φ g ((wipeD ρ [t]).set t (some d)) μ (.str ">")) (hl : ps.length ≤ 900000) :
    ev Φ (.bi .tuple false (.cs (.lc false (.ite (.cmp .lt (.idx (.var t) (.int 0)) (.idx (.var t) (.int 1))) g (.str "<")) [t] false it false .nl [t]) .nl)) ρ μ (.tup ((ps.map fwB).map letD)) := by
  have e1 := ev_lc (Φ := Φ) (μ := μ) (ρ := ρ) (c := .nl) (el := .ite (.cmp .lt (.idx (.var t) (.int 0)) (.idx (.var t) (.int 1))) g (.str "<")) (it := it) (tg := [t]) (own := [t]) (tp := false) (f := fun d => match d with
    | .tup [.int i, .int j] => letD (fwB (i.toNat, j.toNat))
    | _ => .non) hi.i (by rw [List.length_map]; unfold lim; omega) (fun d hd R q => by
      obtain ⟨p, hp, rfl⟩ := List.mem_map.mp hd
      have i0 : ∀ (j : Int) (y : D), atI [D.int p.1, .int p.2] j = some y → ev Φ (.idx (.var t) (.int j)) ((wipeD ρ [t]).set t (some (pairD p))) μ y := fun j y h => ev_idx (ev_var (ht _)) ev_int rfl h
      refine q _ (ev_ite (p := fwB p) (evT_cmp (i0 0 (natD p.1) rfl) (i0 1 (natD p.2) rfl) fun R z => ltN (by
        have : decide ((p.1 : Int) < (p.2 : Int)) = fwB p := decide_eq_decide.mpr (by omega)
        rw [this]
        exact z)) (fun z => ?_) (fun z => ?_))
      · show ev Φ g _ μ (letD (fwB p))
        rw [z]
        exact hg _
      · show ev Φ (.str "<") _ μ (letD (fwB p))
        rw [z]
        exact ev_str)
  have e2 : (ps.map pairD).map (fun d => match d with
    | .tup [.int i, .int j] => letD (fwB (i.toNat, j.toNat))
    | _ => .non) = (ps.map fwB).map letD := by rw [List.map_map, List.map_map] <;> rfl
  rw [e2] at e1
  exact ev_bi (evA_cs e1 evA_nl) fun R z => ⟨_, rfl, z⟩
theorem read_len {t h w : Str} {n : Nat} {ps : List (Nat × Nat)} (e : readT t h w = .inl (n, ps)) : ps.length < 10000 := by
  unfold readT readR at e
  split at e
  · cases e
  · rename_i p hp
    cases hr : rl (fun k => lineOf (rowsOf t) k w) p.2 with
    | inr x => rw [hr] at e; cases e
    | inl qs =>
      rw [hr] at e
      have e : (match endOk (rowsOf t) p.2 with
        | true => (Sum.inl (p.1, qs) : (Nat × List (Nat × Nat)) ⊕ Nat)
        | false => .inr (p.2 + 2)) = .inl (n, ps) := e
      split at e
      · cases e
        rw [rl_len hr]
        exact (line_lt hp).2
      · cases e
theorem okD_web (n : Nat) (ts : List (Nat × Nat)) : okD (webD n ts) = true := by
  show okDs [.int n, .tup (ts.map pairD)] = true
  show (okD (.int n) && (okDs (ts.map pairD) && true)) = true
  rw [okDs_pairs] <;> rfl
def noWeb : Exc := ⟨"NoWeb", []⟩
def noArrows : Exc := ⟨"NoArrows", []⟩
def sp_read_web : DSp := sp1 fun x μ R X => tyable μ x = true ∧ ((∀ t, x ≠ .str t) → X (badX 0) μ) ∧ ∀ t, x = .str t → t.length ≤ 800000 ∧ (∀ e, readT t "web" "tie" = .inr e → X (badX e) μ) ∧ ∀ n ps, readT t "web" "tie" = .inl (n, ps) → (isWebB (webD n ps) = true → R (webD n ps) μ) ∧ (isWebB (webD n ps) = false → X noWeb μ)
theorem pairs_sem {Φ : Md} {ρ : Rho} {μ : Mu} {E : End} {rest : IS} {h w : Str} {x : D} (f : Φ.fns "pairs_read" = some sp_pairs_read) (h0 : ρ[0]? = some (some x)) (ty : tyable μ x = true) (q1 : (∀ t, x ≠ .str t) → E.ex (badX 0) ρ μ)
    (q2 : ∀ t, x = .str t → t.length ≤ 800000 ∧ (∀ e, readT t h w = .inr e → E.ex (badX e) ρ μ) ∧ ∀ n ps, readT t h w = .inl (n, ps) → semS Φ rest ((ρ.set 1 (some (natD n))).set 2 (some (.lst (ps.map pairD)))) μ E) :
    semS Φ (.sq (.unp [1, 2] (.call "pairs_read" (.cs (.var 0) (.cs (.str h) (.cs (.str w) .nl))))) rest) ρ μ E :=
  unp_sem (call_sem f (evA_cs (ev_var h0) (evA_cs ev_str (evA_cs ev_str evA_nl)) _ _ ⟨h, w, rfl, rfl, ty, fun t e => by
    obtain ⟨a, b, c⟩ := q2 t e
    exact ⟨a, (fun n ps hr => ⟨_, rfl, rfl, c n ps hr⟩), b⟩, q1⟩))
theorem m_read_web {Φ : Md} (f1 : Φ.fns "pairs_read" = some sp_pairs_read) (f2 : Φ.fns "need_web" = some sp_need_web) : ∀ x μ R X, (tyable μ x = true ∧ ((∀ t, x ≠ .str t) → X (badX 0) μ) ∧ ∀ t, x = .str t → t.length ≤ 800000 ∧ (∀ e, readT t "web" "tie" = .inr e → X (badX e) μ) ∧ ∀ n ps, readT t "web" "tie" = .inl (n, ps) → (isWebB (webD n ps) = true → R (webD n ps) μ) ∧ (isWebB (webD n ps) = false → X noWeb μ)) →
    semS Φ i_read_web (startD 4 [x]) μ (dEnd R X) := by
  rintro x μ R X ⟨ty, q1, q2⟩
  refine pairs_sem f1 rfl ty (fun z => ⟨fun _ => true, q1 z⟩) fun t ht => ?_
  obtain ⟨a, b, c⟩ := q2 t ht
  refine ⟨a, fun e he => ⟨fun _ => true, b e he⟩, fun n ps hr => ?_⟩
  obtain ⟨c1, c2⟩ := c n ps hr
  have hps := read_len hr
  show semS Φ _ [some x, some (natD n), some (.lst (ps.map pairD)), none] μ _
  refine asg_ev (d := webD n ps) (ev_tup (evA_cs (ev_var (i := 1) (d := natD n) rfl) (evA_cs (ev_bi (d := .tup (ps.map pairD)) (evA_cs (ev_var (i := 2) (d := .lst (ps.map pairD)) rfl) evA_nl) fun R z => ⟨_, rfl, z⟩) evA_nl))) ?_
  refine expr_sem (call_sem f2 (evA_cs (ev_var (i := 3) (d := webD n ps) rfl) evA_nl _ _ ⟨okD_web n ps, by show (ps.map pairD).length ≤ 900000; rw [List.length_map]; omega, fun z => ?_, fun z => ⟨fun _ => true, c2 z⟩⟩))
  exact ret_ev (ev_var (i := 3) (d := webD n ps) rfl) (c1 z)
def arrD (n : Nat) (ps : List (Nat × Nat)) : D := .tup [webD n (ps.map mmP), .tup ((ps.map fwB).map letD)]
def sp_read_arrows : DSp := sp1 fun x μ R X => tyable μ x = true ∧ ((∀ t, x ≠ .str t) → X (badX 0) μ) ∧ ∀ t, x = .str t → t.length ≤ 800000 ∧ (∀ e, readT t "arrows" "arrow" = .inr e → X (badX e) μ) ∧ ∀ n ps, readT t "arrows" "arrow" = .inl (n, ps) → (isWebB (webD n (ps.map mmP)) = false → X noWeb μ) ∧ (isWebB (webD n (ps.map mmP)) = true → (arrowsB n (ps.map mmP) (ps.map fwB) = true → R (arrD n ps) μ) ∧ (arrowsB n (ps.map mmP) (ps.map fwB) = false → X noArrows μ))
theorem m_read_arrows {Φ : Md} (f1 : Φ.fns "pairs_read" = some sp_pairs_read) (f2 : Φ.fns "need_arrows" = some sp_need_arrows) (t1 : Φ.txs "FORWARD" = some ">") : ∀ x μ R X, (tyable μ x = true ∧ ((∀ t, x ≠ .str t) → X (badX 0) μ) ∧ ∀ t, x = .str t → t.length ≤ 800000 ∧ (∀ e, readT t "arrows" "arrow" = .inr e → X (badX e) μ) ∧ ∀ n ps, readT t "arrows" "arrow" = .inl (n, ps) → (isWebB (webD n (ps.map mmP)) = false → X noWeb μ) ∧ (isWebB (webD n (ps.map mmP)) = true → (arrowsB n (ps.map mmP) (ps.map fwB) = true → R (arrD n ps) μ) ∧ (arrowsB n (ps.map mmP) (ps.map fwB) = false → X noArrows μ))) →
    semS Φ i_read_arrows (startD 7 [x]) μ (dEnd R X) := by
  rintro x μ R X ⟨ty, q1, q2⟩
  refine pairs_sem f1 rfl ty (fun z => ⟨fun _ => true, q1 z⟩) fun t ht => ?_
  obtain ⟨a, b, c⟩ := q2 t ht
  refine ⟨a, fun e he => ⟨fun _ => true, b e he⟩, fun n ps hr => ?_⟩
  obtain ⟨c1, c2⟩ := c n ps hr
  have hps := read_len hr
  show semS Φ _ [some x, some (natD n), some (.lst (ps.map pairD)), none, none, none, none] μ _
  refine asg_ev (mm_ev (t := 4) (ps := ps) (evP_var (x := .lst (ps.map pairD)) rfl rfl) (fun d => rfl) (by omega)) ?_
  refine asg_ev (d := webD n (ps.map mmP)) (ev_tup (evA_cs (ev_var (i := 1) (d := natD n) rfl) (evA_cs (ev_var (i := 3) (d := .tup ((ps.map mmP).map pairD)) rfl) evA_nl))) ?_
  refine asg_ev (fw_ev (t := 4) (ps := ps) (evP_var (i := 2) (x := .lst (ps.map pairD)) rfl rfl) (fun d => rfl) (fun d => ev_globS t1) (by omega)) ?_
  show semS Φ _ [some x, some (natD n), some (.lst (ps.map pairD)), some (.tup ((ps.map mmP).map pairD)), none, some (webD n (ps.map mmP)), some (.tup ((ps.map fwB).map letD))] μ _
  have lb : letB (ps.map mmP).length (.tup ((ps.map fwB).map letD)) = true := by
    have := let_ok (ps.map fwB)
    rw [List.length_map] at this
    rw [List.length_map]
    exact this
  refine expr_sem (call_sem f2 (evA_cs (ev_var (i := 5) (d := webD n (ps.map mmP)) rfl) (evA_cs (ev_var (i := 6) (d := .tup ((ps.map fwB).map letD)) rfl) evA_nl) _ _ ⟨okD_web _ _, by show ((ps.map mmP).map pairD).length ≤ 900000; rw [List.length_map, List.length_map]; omega, okDs_lets _, by show ((ps.map fwB).map letD).length ≤ 900000; rw [List.length_map, List.length_map]; omega, fun z => ⟨fun _ => true, c1 z⟩, fun z => ⟨n, ps.map mmP, rfl, fun z2 => ?_, fun z2 => ?_⟩⟩))
  · rw [lb, bits_let, Bool.true_and] at z2
    exact ret_ev (d := arrD n ps) (ev_tup (evA_cs (ev_var (i := 5) (d := webD n (ps.map mmP)) rfl) (evA_cs (ev_var (i := 6) (d := .tup ((ps.map fwB).map letD)) rfl) evA_nl))) ((c2 z).1 z2)
  · rw [lb, bits_let, Bool.true_and] at z2
    exact ⟨fun _ => true, (c2 z).2 z2⟩
/-! ### what comes out -/
def out0 : (Nat × List (Nat × Nat)) ⊕ Nat → D
  | .inr e => .lst [.str "text", natD e]
  | .inl p => match isWebB (webD p.1 p.2) with
    | true => .lst [.str "told", webD p.1 p.2]
    | false => .lst [.str "web"]
def out1 : (Nat × List (Nat × Nat)) ⊕ Nat → D
  | .inr e => .lst [.str "text", natD e]
  | .inl p => match isWebB (webD p.1 (p.2.map mmP)) with
    | true => (match arrowsB p.1 (p.2.map mmP) (p.2.map fwB) with
      | true => .lst [.str "told", arrD p.1 p.2]
      | false => .lst [.str "arrows"])
    | false => .lst [.str "web"]
def outT (kind : Nat) (t : Str) : D := match kind with
  | 0 => out0 (readT t "web" "tie")
  | _ => out1 (readT t "arrows" "arrow")
def outD (kind : Nat) : D → D
  | .str t => outT kind t
  | _ => .lst [.str "text", .int 0]
def Subs (Φ : Md) : Prop := Φ.own1 "BadText" = some "place" ∧ Φ.sub "BadText" "BadText" = some true ∧ Φ.sub "NoWeb" "BadText" = some false ∧ Φ.sub "NoWeb" "NoWeb" = some true ∧ Φ.sub "NoArrows" "BadText" = some false ∧ Φ.sub "NoArrows" "NoWeb" = some false ∧ Φ.sub "NoArrows" "NoArrows" = some true
theorem try_sem {Φ : Md} {ρ : Rho} {μ : Mu} {E : End} {b h rest : IS} (q : semS Φ b ρ μ { nx := fun ρ1 μ1 => semS Φ rest ρ1 μ1 E, rt := E.rt, bk := E.bk, ct := E.ct, ex := fun x ρ' μ' => semH Φ h x ρ' μ' { nx := fun ρ1 μ1 => semS Φ rest ρ1 μ1 E, rt := E.rt, bk := E.bk, ct := E.ct, ex := E.ex } }) : semS Φ (.sq (.try b h) rest) ρ μ E := q
def sp_outcome : DSp := sp2 fun x y μ R X => ∃ k : Nat, k < 2 ∧ x = natD k ∧ tyable μ y = true ∧ (∀ t, y = .str t → t.length ≤ 800000) ∧ R (outD k y) μ
theorem m_outcome {Φ : Md} (f1 : Φ.fns "read_web" = some sp_read_web) (f2 : Φ.fns "read_arrows" = some sp_read_arrows) (s : Subs Φ) : ∀ x y μ R X, (∃ k : Nat, k < 2 ∧ x = natD k ∧ tyable μ y = true ∧ (∀ t, y = .str t → t.length ≤ 800000) ∧ R (outD k y) μ) → semS Φ i__law_outcome (startD 3 [x, y]) μ (dEnd R X) := by
  rintro _ y μ R X ⟨k, hk, rfl, ty, hl, q⟩
  obtain ⟨s0, s1, s2, s3, s4, s5, s6⟩ := s
  have hnon : (∀ t, y ≠ .str t) → outD k y = .lst [.str "text", .int 0] := fun z => by
    cases y <;> first | rfl | exact absurd rfl (z _)
  have bad : ∀ (e : Nat) (ρ : Rho) (r : IS) (E : End), ρ.length = 3 → E.rt = (dEnd R X).rt → R (.lst [.str "text", natD e]) μ → semH Φ (.hfld "BadText" 2 "text" "place" r) (badX e) ρ μ E := fun e ρ r E hρ hE z => ⟨true, s1, rfl, s0, by rw [hρ]; decide, natD e, rfl, by rw [hE]; exact ret0 (X := X) z⟩
  refine try_sem (ret_semE (show semA Φ (.cs (.str "told") (.cs _ .nl)) _ _ (fun ds μ' => mkL false ds μ' _) _ from cs_sem (ev_str _ _ (one_sem (ite_sem ?_)))))
  have kt : evT Φ (.cmp .eq (.var 0) (.int 0)) (startD 3 [natD k, y]) μ (decide ((k : Int) = 0)) := evT_cmp (ev_var (d := natD k) rfl) ev_int fun R z => cmp_eq z
  refine kt _ _ ?_
  match k, hk with
  | 0, _ =>
    show semE Φ (.call "read_web" (.cs (.var 1) .nl)) _ μ _ _
    refine call_sem f1 (evA_cs (ev_var (i := 1) (d := y) rfl) evA_nl _ _ ⟨ty, fun z => ?_, fun t ht => ?_⟩)
    · rw [hnon z] at q
      exact bad 0 _ _ _ rfl rfl q
    · subst ht
      have q : R (out0 (readT t "web" "tie")) μ := q
      refine ⟨hl t rfl, fun e he => ?_, fun n ps hr => ⟨fun z => ?_, fun z => ?_⟩⟩
      · rw [he] at q
        exact bad e _ _ _ rfl rfl q
      · rw [hr] at q
        have q : R (match isWebB (webD n ps) with
          | true => .lst [.str "told", webD n ps]
          | false => .lst [.str "web"]) μ := q
        rw [z] at q
        exact ret0 (X := X) q
      · rw [hr] at q
        have q : R (match isWebB (webD n ps) with
          | true => .lst [.str "told", webD n ps]
          | false => .lst [.str "web"]) μ := q
        rw [z] at q
        exact ⟨false, s2, true, s3, ret_E (ev_lst (evA_cs ev_str evA_nl)) (ret0 (X := X) q)⟩
  | 1, _ =>
    show semE Φ (.call "read_arrows" (.cs (.var 1) .nl)) _ μ _ _
    refine call_sem f2 (evA_cs (ev_var (i := 1) (d := y) rfl) evA_nl _ _ ⟨ty, fun z => ?_, fun t ht => ?_⟩)
    · rw [hnon z] at q
      exact bad 0 _ _ _ rfl rfl q
    · subst ht
      have q : R (out1 (readT t "arrows" "arrow")) μ := q
      refine ⟨hl t rfl, fun e he => ?_, fun n ps hr => ⟨fun z => ?_, fun z => ⟨fun z2 => ?_, fun z2 => ?_⟩⟩⟩
      · rw [he] at q
        exact bad e _ _ _ rfl rfl q
      all_goals
        rw [hr] at q
        have q : R (match isWebB (webD n (ps.map mmP)) with
          | true => (match arrowsB n (ps.map mmP) (ps.map fwB) with
            | true => .lst [.str "told", arrD n ps]
            | false => .lst [.str "arrows"])
          | false => .lst [.str "web"]) μ := q
        rw [z] at q
      · exact ⟨false, s2, true, s3, ret_E (ev_lst (evA_cs ev_str evA_nl)) (ret0 (X := X) q)⟩
      · have q : R (match arrowsB n (ps.map mmP) (ps.map fwB) with
            | true => .lst [.str "told", arrD n ps]
            | false => .lst [.str "arrows"]) μ := q
        rw [z2] at q
        exact ret0 (X := X) q
      · have q : R (match arrowsB n (ps.map mmP) (ps.map fwB) with
            | true => .lst [.str "told", arrD n ps]
            | false => .lst [.str "arrows"]) μ := q
        rw [z2] at q
        exact ⟨false, s4, false, s5, true, s6, ret_E (ev_lst (evA_cs ev_str evA_nl)) (ret0 (X := X) q)⟩
end PL
/-! C10: what is due; texts told. -/
namespace PL
open PySem PySem.Spec PyProof.Rows L2 PySem.W

def sp_due : DSp := sp2 fun x y μ R X => ∃ (k : Nat) (t : Str), k < 2 ∧ x = natD k ∧ y = .str t ∧ t.length ≤ 800000 ∧ R (outT k t) μ
def tellE : IE := .ite (.and (.cmp .eq (.var 0) (.int 1)) (.not (.call "_law_are_arrows" (.cs (.var 3) (.cs (.var 5) .nl))))) (.str "") (.str "")
theorem m_due {Φ : Md} (f1 : Φ.fns "_law_read" = some sp_read) (f2 : Φ.fns "_law_is_web" = some sp_law_web2) (f3 : Φ.fns "_law_are_arrows" = some sp_law_arrows) : ∀ x y μ R X, (∃ (k : Nat) (t : Str), k < 2 ∧ x = natD k ∧ y = .str t ∧ t.length ≤ 800000 ∧ R (outT k t) μ) → semS Φ i__law_due (startD 6 [x, y]) μ (dEnd R X) := by
  rintro _ _ μ R X ⟨k, t, hk, rfl, rfl, hl, q⟩
  -- the two kinds' words
  obtain ⟨h, w, hw1, hw2, hq⟩ : ∃ h w : Str, [D.str "web", .str "arrows"][k]? = some (.str h) ∧ [D.str "tie", .str "arrow"][k]? = some (.str w) ∧ outT k t = (match k with | 0 => out0 (readT t h w) | _ => out1 (readT t h w)) := by
    match k, hk with
    | 0, _ => exact ⟨"web", "tie", rfl, rfl, rfl⟩
    | 1, _ => exact ⟨"arrows", "arrow", rfl, rfl, rfl⟩
  rw [hq] at q
  have ix : ∀ (a b : Str) (y : D), [D.str a, .str b][k]? = some y → ev Φ (.idx (.lst false (.cs (.str a) (.cs (.str b) .nl))) (.var 0)) (startD 6 [natD k, .str t]) μ y := fun a b y h => ev_idxN (n := k) (ev_lst (evA_cs ev_str (evA_cs ev_str evA_nl))) (ev_var (d := natD k) rfl) rfl rfl h
  refine asg_ev (d := readD (readT t h w)) (ev_call f1 (evA_cs (ev_var (i := 1) (d := .str t) rfl) (evA_cs (ix _ _ _ hw1) (evA_cs (ix _ _ _ hw2) evA_nl))) fun R X z => ⟨t, h, w, rfl, rfl, rfl, hl, z⟩) ?_
  cases hr : readT t h w with
  | inr e =>
    rw [hr] at q
    show semS Φ _ [some (natD k), some (.str t), some (natD e), none, none, none] μ _
    refine if_ev (p := true) (evT_inst (ev_var (i := 2) (d := natD e) rfl) rfl) (fun _ => ?_) (fun z => by cases z)
    refine ret_E (d := .lst [.str "text", natD e]) (ev_lst (evA_cs ev_str (evA_cs (ev_var (i := 2) (d := natD e) rfl) evA_nl))) (ret0 (X := X) ?_)
    match k, hk with
    | 0, _ => exact q
    | 1, _ => exact q
  | inl pr =>
    rw [hr] at q
    obtain ⟨n, ps⟩ := pr
    have hps := read_len hr
    show semS Φ _ [some (natD k), some (.str t), some (.tup [natD n, .tup (ps.map pairD)]), none, none, none] μ _
    refine if_ev (p := false) (evT_inst (ev_var (i := 2) (d := .tup [natD n, .tup (ps.map pairD)]) rfl) rfl) (fun z => by cases z) (fun _ => ?_)
    -- the web
    obtain ⟨ts, hts1, hts2, hq2⟩ : ∃ ts : List (Nat × Nat), (k = 0 → ts = ps) ∧ (k ≠ 0 → ts = ps.map mmP) ∧ ts.length = ps.length := by
      by_cases hk0 : k = 0
      · exact ⟨ps, fun _ => rfl, fun z => absurd hk0 z, rfl⟩
      · exact ⟨ps.map mmP, fun z => absurd z hk0, fun _ => rfl, by rw [List.length_map]⟩
    have kt : ∀ (j : Int) (ρ : Rho), ρ[0]? = some (some (natD k)) → evT Φ (.cmp .eq (.var 0) (.int j)) ρ μ (decide ((k : Int) = j)) := fun j ρ h => evT_cmp (ev_var h) ev_int fun R z => cmp_eq z
    refine asg_ev (d := webD n ts) (ev_ite (kt 0 _ rfl) (fun z => ?_) (fun z => ?_)) ?_
    · rw [hts1 (by have := of_decide_eq_true z; omega)]
      exact ev_var rfl
    · rw [hts2 (by have := of_decide_eq_false z; omega)]
      refine ev_tup (evA_cs (ev_idx (d := natD n) (ev_var (i := 2) (d := .tup [natD n, .tup (ps.map pairD)]) rfl) ev_int rfl rfl) (evA_cs (mm_ev (t := 4) (ps := ps) ?_ (fun d => rfl) (by omega)) evA_nl))
      exact evP_idx (d := .tup (ps.map pairD)) (ev_var (i := 2) (d := .tup [natD n, .tup (ps.map pairD)]) rfl) (ev_int (n := 1)) rfl rfl rfl
    show semS Φ _ [some (natD k), some (.str t), some (.tup [natD n, .tup (ps.map pairD)]), some (webD n ts), none, none] μ _
    have ew : evT Φ (.not (.call "_law_is_web" (.cs (.var 3) .nl))) [some (natD k), some (.str t), some (.tup [natD n, .tup (ps.map pairD)]), some (webD n ts), none, none] μ (!isWebB (webD n ts)) := evT_not (evT_call f2 (evA_cs (ev_var (i := 3) (d := webD n ts) rfl) evA_nl) fun R X z => ⟨n, ts, rfl, by omega, z⟩)
    have q0 : k = 0 → R (match isWebB (webD n ts) with
        | true => .lst [.str "told", webD n ts]
        | false => .lst [.str "web"]) μ := fun e => by
      rw [hts1 e]
      subst e
      exact q
    have q1 : k = 1 → R (match isWebB (webD n ts) with
        | true => (match arrowsB n ts (ps.map fwB) with
          | true => .lst [.str "told", .tup [webD n ts, .tup ((ps.map fwB).map letD)]]
          | false => .lst [.str "arrows"])
        | false => .lst [.str "web"]) μ := fun e => by
      rw [hts2 (by omega)]
      subst e
      exact q
    refine if_ev ew (fun z => ?_) (fun z => ?_)
    · rw [Bool.not_eq_true'] at z
      rw [z] at q0 q1
      refine ret_E (d := .lst [.str "web"]) (ev_lst (evA_cs ev_str evA_nl)) (ret0 (X := X) ?_)
      have : k = 0 ∨ k = 1 := by omega
      rcases this with e | e
      · exact q0 e
      · exact q1 e
    · rw [Bool.not_eq_false'] at z
      rw [z] at q0 q1
      obtain ⟨g1, g2, g3⟩ := web_good z
      refine asg_ev (fw_ev (t := 4) (ps := ps) (evP_idx (d := .tup (ps.map pairD)) (ev_var (i := 2) (d := .tup [natD n, .tup (ps.map pairD)]) rfl) (ev_int (n := 1)) rfl rfl rfl) (fun d => rfl) (fun d => ev_str) (by omega)) ?_
      show semS Φ _ [some (natD k), some (.str t), some (.tup [natD n, .tup (ps.map pairD)]), some (webD n ts), none, some (.tup ((ps.map fwB).map letD))] μ _
      have ea : evT Φ (.not (.call "_law_are_arrows" (.cs (.var 3) (.cs (.var 5) .nl)))) [some (natD k), some (.str t), some (.tup [natD n, .tup (ps.map pairD)]), some (webD n ts), none, some (.tup ((ps.map fwB).map letD))] μ (!arrowsB n ts (ps.map fwB)) := evT_not (evT_call f3 (evA_cs (ev_var (i := 3) (d := webD n ts) rfl) (evA_cs (ev_var (i := 5) (d := .tup ((ps.map fwB).map letD)) rfl) evA_nl)) fun R X z => ⟨n, ts, ps.map fwB, rfl, rfl, by rw [List.length_map]; omega, fun p hp => ⟨by have := g3 p hp; omega, (g3 p hp).2⟩, by omega, by omega, z⟩)
      refine if_ev (evT_and (kt 1 _ rfl) fun _ => ea) (fun z2 => ?_) (fun z2 => ?_)
      · rw [Bool.and_eq_true, decide_eq_true_eq, Bool.not_eq_true'] at z2
        have q1 := q1 (by omega)
        rw [z2.2] at q1
        exact ret_E (d := .lst [.str "arrows"]) (ev_lst (evA_cs ev_str evA_nl)) (ret0 (X := X) q1)
      · have : k = 0 ∨ k = 1 := by omega
        rcases this with e | e
        · refine ret_ev (d := .lst [.str "told", webD n ts]) (ev_lst (evA_cs ev_str (evA_cs (ev_ite (kt 0 _ rfl) (fun _ => ev_var rfl) (fun z3 => ?_)) evA_nl))) (q0 e)
          have := of_decide_eq_false z3
          omega
        · have h1 : decide ((k : Int) = 1) = true := decide_eq_true (by omega)
          rw [h1, Bool.true_and, Bool.not_eq_false'] at z2
          have q1 := q1 e
          rw [z2] at q1
          refine ret_ev (d := .lst [.str "told", .tup [webD n ts, .tup ((ps.map fwB).map letD)]]) (ev_lst (evA_cs ev_str (evA_cs (ev_ite (kt 0 _ rfl) (fun z3 => ?_) (fun _ => ev_tup (evA_cs (ev_var rfl) (evA_cs (ev_var rfl) evA_nl)))) evA_nl))) q1
          have := of_decide_eq_true z3
          omega
/-! ### texts told -/
def webRows (n : Nat) (ts : List (Nat × Nat)) : List (List D) := [.str "web", natD n, natD ts.length] :: ts.map fun p => [.str "tie", natD p.1, natD p.2]
def flipP (b : Bool) (p : Nat × Nat) : Nat × Nat := if b then p else (p.2, p.1)
def arrRows (n : Nat) (zs : List ((Nat × Nat) × Bool)) (m : Nat) : List (List D) := [.str "arrows", natD n, natD m] :: zs.map fun z => [.str "arrow", natD (flipP z.2 z.1).1, natD (flipP z.2 z.1).2]
theorem wd_nat {n : Nat} (h : n ≤ 1000) : WdOk (natD n) := .inl ⟨n, rfl, h⟩
theorem row3_ok {s : Str} {a b : Nat} (hs : s.length ≤ 10) (ha : a ≤ 1000) (hb : b ≤ 1000) : [D.str s, natD a, natD b].length ≤ 10 ∧ ∀ w, w ∈ [D.str s, natD a, natD b] → WdOk w := ⟨by show 3 ≤ 10; decide, fun w hw => by
  simp only [List.mem_cons, List.not_mem_nil, or_false] at hw
  rcases hw with rfl | rfl | rfl
  · exact .inr ⟨s, rfl, hs⟩
  · exact wd_nat ha
  · exact wd_nat hb⟩
theorem webRows_ok {n : Nat} {ts : List (Nat × Nat)} (hn : n ≤ 24) (hl : ts.length ≤ 600) (hb : ∀ p, p ∈ ts → p.1 < n ∧ p.2 < n) : RowsOk (webRows n ts) := by
  refine ⟨by show (ts.map _).length + 1 ≤ 1000; rw [List.length_map]; omega, fun r hr => ?_⟩
  rcases List.mem_cons.mp hr with rfl | hr
  · exact row3_ok (by decide) (by omega) (by omega)
  · obtain ⟨p, hp, rfl⟩ := List.mem_map.mp hr
    have := hb p hp
    exact row3_ok (by decide) (by omega) (by omega)
theorem arrRows_ok {n m : Nat} {zs : List ((Nat × Nat) × Bool)} (hn : n ≤ 24) (hm : m ≤ 600) (hl : zs.length ≤ 600) (hb : ∀ z, z ∈ zs → z.1.1 < n ∧ z.1.2 < n) : RowsOk (arrRows n zs m) := by
  refine ⟨by show (zs.map _).length + 1 ≤ 1000; rw [List.length_map]; omega, fun r hr => ?_⟩
  rcases List.mem_cons.mp hr with rfl | hr
  · exact row3_ok (by decide) (by omega) (by omega)
  · obtain ⟨z, hz, rfl⟩ := List.mem_map.mp hr
    obtain ⟨⟨x, y⟩, b⟩ := z
    have := hb _ hz
    have h1 : x < n := this.1
    have h2 : y < n := this.2
    cases b
    · exact row3_ok (by decide) (show y ≤ 1000 by omega) (show x ≤ 1000 by omega)
    · exact row3_ok (by decide) (show x ≤ 1000 by omega) (show y ≤ 1000 by omega)
/-- the rows of a web's text -/
theorem webRows_ev {Φ : Md} {ρ : Rho} {μ : Mu} {v t : Nat} {n : Nat} {ts : List (Nat × Nat)} (hv : ρ[v]? = some (some (webD n ts))) (ht : ∀ d, ((wipeD ρ [t]).set t (some d))[t]? = some (some d)) (hl : ts.length ≤ 600) :
    ev Φ (.bin .add false (.lst false (.cs (.tup (.cs (.str "web") (.cs (.idx (.var v) (.int 0)) (.cs (.bi .len false (.cs (.idx (.var v) (.int 1)) .nl)) .nl)))) .nl)) (.lc false (.bin .add false (.tup (.cs (.str "tie") .nl)) (.var t)) [t] false (.idx (.var v) (.int 1)) false .nl [t])) ρ μ (.lst ((webRows n ts).map .tup)) := by
  have w1 : ev Φ (.idx (.var v) (.int 1)) ρ μ (.tup (ts.map pairD)) := ev_idx (ev_var hv) ev_int rfl rfl
  have e0 : ev Φ (.lst false (.cs (.tup (.cs (.str "web") (.cs (.idx (.var v) (.int 0)) (.cs (.bi .len false (.cs (.idx (.var v) (.int 1)) .nl)) .nl)))) .nl)) ρ μ (.lst [.tup [.str "web", natD n, .int ((ts.map pairD).length : Nat)]]) := ev_lst (evA_cs (ev_tup (evA_cs ev_str (evA_cs (ev_idx (d := natD n) (ev_var hv) ev_int rfl rfl) (evA_cs (ev_len w1 rfl) evA_nl)))) evA_nl)
  have e1 := ev_lc (Φ := Φ) (μ := μ) (ρ := ρ) (c := .nl) (el := .bin .add false (.tup (.cs (.str "tie") .nl)) (.var t)) (it := .idx (.var v) (.int 1)) (tg := [t]) (own := [t]) (tp := false) (f := fun d => match d with
    | .tup xs => .tup (.str "tie" :: xs)
    | _ => .non) (evP_idx (d := .tup (ts.map pairD)) (ev_var hv) (ev_int (n := 1)) rfl rfl rfl).i (by rw [List.length_map]; unfold lim; omega) (fun d hd R q => by
      obtain ⟨p, hp, rfl⟩ := List.mem_map.mp hd
      exact q _ (ev_addT (xs := [.str "tie"]) (ys := [.int p.1, .int p.2]) (ev_tup (evA_cs ev_str evA_nl)) (ev_var (ht _)) (by show 1 + 2 ≤ lim; decide)))
  have := ev_addL e0 e1 (by simp only [List.length_map, List.length_cons, List.length_nil]; unfold lim; omega)
  rw [List.map_map, List.length_map] at this
  have e3 : (webRows n ts).map D.tup = [.tup [.str "web", natD n, .int (ts.length : Nat)]] ++ ts.map ((fun d => match d with
    | .tup xs => D.tup (.str "tie" :: xs)
    | _ => .non) ∘ pairD) := by
    show _ :: (ts.map _).map D.tup = _ :: _
    rw [List.map_map] <;> rfl
  rw [e3]
  exact this
def sp_web_text : DSp := sp1 fun x μ R X => okD x = true ∧ webLen x ∧ (isWebB x = false → X noWeb μ) ∧ (isWebB x = true → ∃ n ts, x = webD n ts ∧ ts.length ≤ 600 ∧ R (.str (linedS (webRows n ts))) μ)
theorem m_web_text {Φ : Md} (f1 : Φ.fns "need_web" = some sp_need_web) (f2 : Φ.fns "lined" = some sp_lined) : ∀ x μ R X, (okD x = true ∧ webLen x ∧ (isWebB x = false → X noWeb μ) ∧ (isWebB x = true → ∃ n ts, x = webD n ts ∧ ts.length ≤ 600 ∧ R (.str (linedS (webRows n ts))) μ)) → semS Φ i_web_text (startD 2 [x]) μ (dEnd R X) := by
  rintro x μ R X ⟨h1, h2, q1, q2⟩
  refine expr_sem (call_sem f1 (evA_cs (ev_var (i := 0) (d := x) rfl) evA_nl _ _ ⟨h1, h2, fun z => ?_, fun z => ⟨fun _ => true, q1 z⟩⟩))
  obtain ⟨n, ts, rfl, hl, q⟩ := q2 z
  obtain ⟨g1, g2, g3⟩ := web_good z
  exact ret_semE (call_sem f2 (evA_cs (webRows_ev (v := 0) (t := 1) rfl (fun d => rfl) hl) evA_nl _ _ ⟨webRows n ts, rfl, webRows_ok g2 hl fun p hp => ⟨by have := g3 p hp; omega, (g3 p hp).2⟩, ret0 (X := X) q⟩))
theorem ev_revT {Φ : Md} {ρ : Rho} {μ : Mu} {a : IE} {m : Bool} {xs : List D} (h : ev Φ a ρ μ (.tup xs)) : ev Φ (.rev m a) ρ μ (.tup xs.reverse) := fun R X z => h (fun x μ1 => opRev m x μ1 R) X z
def sp_arrows_text : DSp := sp2 fun x y μ R X => okD x = true ∧ webLen x ∧ okD y = true ∧ lenOk y ∧ (isWebB x = false → X noWeb μ) ∧ (isWebB x = true → ∃ n ts, x = webD n ts ∧ ts.length ≤ 600 ∧ ((letB ts.length y && arrowsB n ts (bitsOf y)) = true → R (.str (linedS (arrRows n (ts.zip (bitsOf y)) ts.length))) μ) ∧ ((letB ts.length y && arrowsB n ts (bitsOf y)) = false → X noArrows μ))
theorem m_arrows_text {Φ : Md} (f1 : Φ.fns "need_arrows" = some sp_need_arrows) (f2 : Φ.fns "lined" = some sp_lined) (t1 : Φ.txs "FORWARD" = some ">") : ∀ x y μ R X, (okD x = true ∧ webLen x ∧ okD y = true ∧ lenOk y ∧ (isWebB x = false → X noWeb μ) ∧ (isWebB x = true → ∃ n ts, x = webD n ts ∧ ts.length ≤ 600 ∧ ((letB ts.length y && arrowsB n ts (bitsOf y)) = true → R (.str (linedS (arrRows n (ts.zip (bitsOf y)) ts.length))) μ) ∧ ((letB ts.length y && arrowsB n ts (bitsOf y)) = false → X noArrows μ))) → semS Φ i_arrows_text (startD 5 [x, y]) μ (dEnd R X) := by
  rintro x y μ R X ⟨h1, h2, h3, h4, q1, q2⟩
  refine expr_sem (call_sem f1 (evA_cs (ev_var (i := 0) (d := x) rfl) (evA_cs (ev_var (i := 1) (d := y) rfl) evA_nl) _ _ ⟨h1, h2, h3, h4, fun z => ⟨fun _ => true, q1 z⟩, fun z => ?_⟩))
  obtain ⟨n, ts, rfl, hl, q, qx⟩ := q2 z
  obtain ⟨g1, g2, g3⟩ := web_good z
  refine ⟨n, ts, rfl, fun z2 => ?_, fun z2 => ⟨fun _ => true, qx z2⟩⟩
  have q := q z2
  rw [Bool.and_eq_true] at z2
  obtain ⟨bs, hbl, rfl⟩ := let_form z2.1
  rw [bits_let] at q
  have w1 : ∀ {ρ : Rho} {μ : Mu}, ρ[0]? = some (some (webD n ts)) → ev Φ (.idx (.var 0) (.int 1)) ρ μ (.tup (ts.map pairD)) := fun h => ev_idx (ev_var h) ev_int rfl rfl
  have hzl : (ts.zip bs).length ≤ 600 := by rw [List.length_zip]; omega
  have hzb : ∀ z, z ∈ ts.zip bs → z.1.1 < n ∧ z.1.2 < n := fun z hz => by
    have := g3 z.1 (List.of_mem_zip (a := z.1) (b := z.2) hz).1
    omega
  refine asg_sem (show semA Φ (.cs _ .nl) _ _ (fun ds μ' => mkL true ds μ' _) _ from one_sem (ev_tup (evA_cs ev_str (evA_cs (ev_idx (d := natD n) (ev_var (i := 0) (d := webD n ts) rfl) ev_int rfl rfl) (evA_cs (ev_len (w1 rfl) rfl) evA_nl))) _ _ fun a ha => ?_))
  rw [List.length_map]
  have c0 : Cells μ (μ.set a (.lst [.tup [.str "arrows", natD n, natD ts.length]])) [a] [.lst [.tup [.str "arrows", natD n, natD ts.length]]] := Cells.nil.add ha
  show semS Φ _ [some (webD n ts), some (.tup (bs.map letD)), some (.ref a), none, none] (μ.set a (.lst [.tup [.str "arrows", natD n, natD ts.length]])) _
  have hz : ∀ μ', evP Φ (.zip (.idx (.var 0) (.int 1)) (.var 1)) [some (webD n ts), some (.tup (bs.map letD)), some (.ref a), none, none] μ' ((ts.zip bs).map fun z => .tup [pairD z.1, letD z.2]) := fun μ' => by
    have := evP_zipT (Φ := Φ) (μ := μ') (a := .idx (.var 0) (.int 1)) (b := .var 1) (ρ := [some (webD n ts), some (.tup (bs.map letD)), some (.ref a), none, none]) (as := ts.map pairD) (bs := bs.map letD) (w1 rfl) (ev_var rfl)
    rw [List.zip_map, List.map_map] at this
    exact this
  generalize ts.zip bs = zs at hz q hzl hzb
  refine for_evP (hz _) ?_
  refine forT_by (fun i ρ1 μ1 => ∃ o p, ρ1 = [some (webD n ts), some (.tup (bs.map letD)), some (.ref a), o, p] ∧ Cells μ μ1 [a] [.lst ((arrRows n (zs.take i) ts.length).map .tup)]) ⟨none, none, rfl, c0⟩ (fun _ _ _ _ _ => trivial) (fun i d ρ1 μ1 N hd hh k => ?_) (fun ρ1 μ1 hh => ?_)
  · obtain ⟨o, p, rfl, c⟩ := hh
    rw [List.getElem?_map] at hd
    obtain ⟨z, hz0, rfl⟩ := Option.map_eq_some_iff.mp hd
    have hil : i < zs.length := (List.getElem?_eq_some_iff.mp hz0).1
    obtain ⟨⟨x, y⟩, b⟩ := z
    refine ⟨_, rfl, rfl, ?_⟩
    show semS Φ (.sq (.expr _) .nop) [some (webD n ts), some (.tup (bs.map letD)), some (.ref a), some (pairD (x, y)), some (letD b)] μ1 _
    have eat : μ1 a = some (.lst ((arrRows n (zs.take i) ts.length).map .tup)) := c.has 0 a _ rfl rfl
    have rt : (ritems μ1 (.ref a)).isSome = true := by
      show ((match μ1 a with | some (.lst ds) => some ds | _ => none).isSome = true)
      rw [eat] <;> rfl
    have ef : ev Φ (.ite (.cmp .eq (.var 4) (.globS "FORWARD")) (.var 3) (.rev false (.var 3))) [some (webD n ts), some (.tup (bs.map letD)), some (.ref a), some (pairD (x, y)), some (letD b)] μ1 (.tup [natD (flipP b (x, y)).1, natD (flipP b (x, y)).2]) := by
      refine ev_ite (p := b) (evT_cmp (ev_var (i := 4) (d := .str (if b then ">" else "<")) rfl) (ev_globS t1) fun R z => cmp_eqs (by
        have : decide ((if b then (">" : Str) else "<") = ">") = b := by cases b <;> decide
        rw [this]
        exact z)) (fun z => ?_) (fun z => ?_)
      · subst z
        exact ev_var rfl
      · subst z
        exact ev_revT (xs := [natD x, natD y]) (ev_var rfl)
    refine expr_sem (meth_sem (ev_var (i := 2) (d := .ref a) rfl _ _ ⟨rt, one_sem (ev_addT (xs := [.str "arrow"]) (ev_tup (evA_cs ev_str evA_nl)) ef (by show 1 + 2 ≤ lim; decide) _ _ ⟨_, eat, ?_, ?_⟩)⟩))
    · rw [List.length_map]
      show (List.map _ _).length + 1 < lim
      rw [List.length_map, List.length_take]
      unfold lim
      omega
    · have c2 := c.put (k := 0) (a := a) (m := .lst ((arrRows n (zs.take i) ts.length).map .tup ++ [.tup ([.str "arrow"] ++ [natD (flipP b (x, y)).1, natD (flipP b (x, y)).2])])) rfl
      refine k _ _ ⟨_, _, rfl, ?_⟩
      have e : (arrRows n (zs.take (i + 1)) ts.length).map D.tup = (arrRows n (zs.take i) ts.length).map .tup ++ [.tup ([.str "arrow"] ++ [natD (flipP b (x, y)).1, natD (flipP b (x, y)).2])] := by
        unfold arrRows
        rw [List.take_succ, hz0, List.map_append]
        show _ :: (List.map _ (_ ++ [_])) = (_ :: _) ++ _
        rw [List.map_append] <;> rfl
      rw [e]
      exact c2
  · obtain ⟨o, p, rfl, c⟩ := hh
    rw [List.length_map, List.take_length] at c
    have eat : μ1 a = some (.lst ((arrRows n zs ts.length).map .tup)) := c.has 0 a _ rfl rfl
    refine ret_semE (call_sem f2 (evA_cs (ev_var (i := 2) (d := .ref a) rfl) evA_nl _ _ ⟨arrRows n zs ts.length, ?_, arrRows_ok g2 hl hzl hzb, c.ret0 q⟩))
    show (match μ1 a with | some (.lst ds) => some ds | _ => none) = _
    rw [eat] <;> rfl
end PL
/-! C11: texts told are read back. -/
namespace PL
open PySem PySem.Spec PyProof.Rows L2 PySem.W

theorem joinL_nil : ∀ ps : List (List Nat), TL.joinL [] ps = ps.flatten
  | [] => rfl
  | [p] => by simp [TL.joinL]
  | p :: q :: r => by
    show p ++ ([] ++ TL.joinL [] (q :: r)) = _
    rw [joinL_nil (q :: r), List.flatten_cons (l := p), List.nil_append]
theorem joinL_end (s : Nat) : ∀ ps : List (List Nat), TL.joinL [s] (ps ++ [[]]) = (ps.map (· ++ [s])).flatten
  | [] => rfl
  | [p] => by simp [TL.joinL]
  | p :: q :: r => by
    show p ++ ([s] ++ TL.joinL [s] ((q :: r) ++ [[]])) = _
    rw [joinL_end s (q :: r)]
    show _ = (p ++ [s]) ++ ((q :: r).map (· ++ [s])).flatten
    rw [List.append_assoc]
theorem joinL_mem {S : List Nat} {c : Nat} : ∀ {ps : List (List Nat)}, c ∈ TL.joinL S ps → c ∈ S ∨ ∃ p, p ∈ ps ∧ c ∈ p
  | [], h => by cases h
  | [p], h => .inr ⟨p, List.mem_singleton.mpr rfl, h⟩
  | p :: q :: r, h => by
    have h : c ∈ p ++ (S ++ TL.joinL S (q :: r)) := h
    rcases List.mem_append.mp h with h | h
    · exact .inr ⟨p, List.mem_cons_self, h⟩
    · rcases List.mem_append.mp h with h | h
      · exact .inl h
      · rcases joinL_mem h with h | ⟨x, hx, h⟩
        · exact .inl h
        · exact .inr ⟨x, List.mem_cons_of_mem _ hx, h⟩
def Plain (r : List D) : Prop := r ≠ [] ∧ ∀ w, w ∈ r → 10 ∉ TL.tl (wS w) ∧ 32 ∉ TL.tl (wS w)
theorem rowJ_free {r : List D} (h : Plain r) : 10 ∉ TL.tl (rowJ r) := fun hm => by
  unfold rowJ at hm
  rw [TL.join_eq, TL.tl_join] at hm
  rcases joinL_mem hm with e | ⟨p, hp, e⟩
  · have : (10 : Nat) ∈ [32] := e
    simp at this
  · obtain ⟨x, hx, rfl⟩ := List.mem_map.mp hp
    obtain ⟨w, hw, rfl⟩ := List.mem_map.mp hx
    exact (h.2 w hw).1 e
theorem words_row {r : List D} (h : Plain r) : wordsOf (rowJ r) = r.map wS := by
  refine TL.split_join (s := 32) (S := []) rfl (by decide +kernel) (by simpa using h.1) fun p hp => ?_
  obtain ⟨w, hw, rfl⟩ := List.mem_map.mp hp
  exact (h.2 w hw).2
theorem lined_join (rows : List (List D)) : linedS rows = Txt.join "\n" (rows.map rowJ ++ [("" : Str)]) := by
  apply TL.ext_tl
  unfold linedS
  rw [TL.join_eq, TL.tl_join, TL.join_eq, TL.tl_join]
  show TL.joinL [] ((rows.map fun r => rowJ r ++ "\n").map TL.tl) = TL.joinL [10] ((rows.map rowJ ++ [("" : Str)]).map TL.tl)
  rw [joinL_nil, List.map_append]
  show _ = TL.joinL [10] ((rows.map rowJ).map TL.tl ++ [[]])
  rw [joinL_end, List.map_map, List.map_map, List.map_map]
  congr 1
  apply List.map_congr_left
  intro r _
  show TL.tl (rowJ r ++ "\n") = TL.tl (rowJ r) ++ [10]
  rw [TL.tl_append] <;> rfl
theorem rows_lined {rows : List (List D)} (h : ∀ r, r ∈ rows → Plain r) : rowsOf (linedS rows) = rows.map rowJ ++ [("" : Str)] := by
  unfold rowsOf
  rw [lined_join]
  refine TL.split_join (s := 10) (S := []) rfl (by decide +kernel) (by simp) fun p hp => ?_
  rcases List.mem_append.mp hp with hp | hp
  · obtain ⟨r, hr, rfl⟩ := List.mem_map.mp hp
    exact rowJ_free (h r hr)
  · rw [List.mem_singleton.mp hp]
    intro z
    cases z
theorem numL_head : ∀ n : Nat, 0 < n → (TL.numL n).head? ≠ some 48 := fun n => by
  induction n using Nat.strongRecOn with
  | _ n ih =>
    intro h0
    by_cases h : n < 10
    · rw [TL.numL_lt h]
      intro z
      have : 48 + n = 48 := by simpa using z
      omega
    · rw [TL.numL_step (by omega)]
      have := ih (n / 10) (by omega) (by omega)
      cases e : TL.numL (n / 10) with
      | nil => exact absurd e (TL.numL_ne _)
      | cons a b =>
        rw [e] at this
        exact this
theorem num_back {n : Nat} (h : n ≤ 1000) : numOf (wS (natD n)) = some n := by
  unfold numOf
  rw [TL.len_tl, tl_num]
  have l1 : 1 ≤ (TL.numL n).length := List.length_pos_iff.mpr (TL.numL_ne n)
  have l4 : (TL.numL n).length ≤ 4 := TL.numL_len (by decide) (by omega)
  have al : (TL.numL n).all (fun c => decide (c ∈ digL)) = true := List.all_eq_true.mpr fun c hc => decide_eq_true (dig_of (TL.numL_digits n c hc))
  have hd : (decide (wS (natD n) = "0") || !decide ((TL.numL n).head? = some 48)) = true := by
    by_cases h0 : n = 0
    · subst h0
      rw [decide_eq_true (show wS (natD 0) = "0" from TL.ext_tl (by rw [tl_num] <;> rfl))] <;> rfl
    · rw [decide_eq_false (numL_head n (by omega)), Bool.or_comm] <;> rfl
  rw [decide_eq_true l1, decide_eq_true l4, al, hd]
  show some (NumText.digitsVal (TL.numL n)) = some n
  rw [TL.numL_val]
def row3 (s : Str) (a b : Nat) : List D := [.str s, natD a, natD b]
def Word (s : Str) : Prop := 10 ∉ TL.tl s ∧ 32 ∉ TL.tl s
theorem nat_plain (n : Nat) : 10 ∉ TL.tl (wS (natD n)) ∧ 32 ∉ TL.tl (wS (natD n)) := by
  rw [tl_num]
  exact ⟨TL.numL_free (.inl (by decide)), TL.numL_free (.inl (by decide))⟩
theorem row3_plain {s : Str} {a b : Nat} (h : Word s) : Plain (row3 s a b) := ⟨by unfold row3; simp, fun w hw => by
  unfold row3 at hw
  simp only [List.mem_cons, List.not_mem_nil, or_false] at hw
  rcases hw with rfl | rfl | rfl
  · exact h
  · exact nat_plain a
  · exact nat_plain b⟩
theorem pair_row3 {s : Str} {a b : Nat} (h : Word s) (ha : a ≤ 1000) (hb : b ≤ 1000) : pairOf (rowJ (row3 s a b)) s = some (a, b) := by
  unfold pairOf
  rw [words_row (row3_plain h)]
  show (match decide (s = s) with
    | true => pairO [numOf (wS (natD a)), numOf (wS (natD b))]
    | false => none) = _
  rw [decide_eq_true rfl, num_back ha, num_back hb] <;> rfl
theorem read_back {h w : Str} {n : Nat} {prs : List (Nat × Nat)} (wh : Word h) (ww : Word w) (hn : n ≤ 1000) (hl : prs.length ≤ 1000) (hp : ∀ p, p ∈ prs → p.1 ≤ 1000 ∧ p.2 ≤ 1000) :
    readT (linedS (row3 h n prs.length :: prs.map fun p => row3 w p.1 p.2)) h w = .inl (n, prs) := by
  have er : rowsOf (linedS (row3 h n prs.length :: prs.map fun p => row3 w p.1 p.2)) = (row3 h n prs.length :: prs.map fun p => row3 w p.1 p.2).map rowJ ++ [("" : Str)] := rows_lined fun r hr => by
    rcases List.mem_cons.mp hr with rfl | hr
    · exact row3_plain wh
    · obtain ⟨p, _, rfl⟩ := List.mem_map.mp hr
      exact row3_plain ww
  unfold readT
  rw [er]
  generalize hR : (row3 h n prs.length :: prs.map fun p => row3 w p.1 p.2).map rowJ ++ [("" : Str)] = rows
  have rl' : rows.length = prs.length + 2 := by rw [← hR]; simp
  have at0 : rows.getD 0 "" = rowJ (row3 h n prs.length) := by rw [← hR] <;> rfl
  have atk : ∀ k, (hk : k < prs.length) → rows.getD (k + 1) "" = rowJ (row3 w prs[k].1 prs[k].2) := fun k hk => by
    rw [← hR, List.getD_eq_getElem?_getD, List.getElem?_append_left (by simp; omega), List.getElem?_map, List.getElem?_cons_succ, List.getElem?_map, List.getElem?_eq_getElem hk] <;> rfl
  have l0 : lineOf rows 0 h = some (n, prs.length) := by
    rw [line_at (by omega), at0, pair_row3 wh hn hl]
  have lk : ∀ k, (hk : k < prs.length) → lineOf rows (k + 1) w = some prs[k] := fun k hk => by
    have := hp _ (List.getElem_mem hk)
    rw [line_at (by omega), atk k hk, pair_row3 ww this.1 this.2]
  have rk : ∀ k, k ≤ prs.length → rl (fun k => lineOf rows k w) k = .inl (prs.take k) := fun k => by
    induction k with
    | zero => exact fun _ => rfl
    | succ k ih =>
      intro hk
      rw [rl_next (ih (by omega))]
      show stepR (prs.take k) k (lineOf rows (k + 1) w) = _
      rw [lk k (by omega), List.take_succ, List.getElem?_eq_getElem (show k < prs.length by omega)] <;> rfl
  rw [l0]
  show endR rows n prs.length (rl (fun k => lineOf rows k w) prs.length) = _
  rw [rk _ (Nat.le_refl _), List.take_length]
  have : endOk rows prs.length = true := by
    unfold endOk
    rw [decide_eq_true rl', ← hR, List.getLast?_append, decide_eq_true (by simp)] <;> rfl
  unfold endR
  rw [this]
theorem read_web_back {n : Nat} {ts : List (Nat × Nat)} (hn : n ≤ 24) (g : GoodTs n ts) : readT (linedS (webRows n ts)) "web" "tie" = .inl (n, ts) := read_back (h := "web") (w := "tie") (by unfold Word; decide +kernel) (by unfold Word; decide +kernel) (by omega) (Nat.le_trans g.l (by decide)) fun p hp => by
  have := g.b p hp
  omega
theorem read_arrows_back {n : Nat} {zs : List ((Nat × Nat) × Bool)} (hn : n ≤ 24) (hl : zs.length ≤ 600) (hb : ∀ z, z ∈ zs → z.1.1 < n ∧ z.1.2 < n) : readT (linedS (arrRows n zs zs.length)) "arrows" "arrow" = .inl (n, zs.map fun z => flipP z.2 z.1) := by
  have := read_back (h := "arrows") (w := "arrow") (n := n) (prs := zs.map fun z => flipP z.2 z.1) (by unfold Word; decide +kernel) (by unfold Word; decide +kernel) (by omega) (by rw [List.length_map]; omega) fun p hp => by
    obtain ⟨z, hz, rfl⟩ := List.mem_map.mp hp
    have := hb z hz
    unfold flipP
    split
    · omega
    · show z.1.2 ≤ 1000 ∧ z.1.1 ≤ 1000
      omega
  rw [List.length_map, List.map_map] at this
  exact this
/-! ### orders' arrows -/
def bitsT (ts : List (Nat × Nat)) (t : Nat → Nat → Bool) : List Bool := ts.map fun p => t p.1 p.2
theorem letters_bits (ts : List (Nat × Nat)) (t : Nat → Nat → Bool) : lettersD ts t = .tup ((bitsT ts t).map letD) := by
  unfold lettersD bitsT
  rw [List.map_map] <;> rfl
theorem zip_bits (ts : List (Nat × Nat)) (t : Nat → Nat → Bool) : ts.zip (bitsT ts t) = ts.map fun p => (p, t p.1 p.2) := by
  unfold bitsT
  induction ts with
  | nil => rfl
  | cons p ts ih => rw [List.map_cons, List.zip_cons_cons, ih] <;> rfl
theorem arr_order {n : Nat} {t : Nat → Nat → Bool} (so : StrictO n t) {i j : Nat} (hi : i < n) (hj : j < n) : arrB ((upTs n (symB t) n).zip (bitsT (upTs n (symB t) n) t)) i j = t i j := by
  rw [zip_bits, Bool.eq_iff_iff]
  unfold arrB
  rw [List.any_map, List.any_eq_true]
  constructor
  · rintro ⟨p, hp, h⟩
    obtain ⟨h1, h2, h3⟩ := up_mem.mp hp
    have h : (if t p.1 p.2 then decide (p.1 = i) && decide (p.2 = j) else decide (p.2 = i) && decide (p.1 = j)) = true := h
    split at h
    · rename_i q
      simp only [Bool.and_eq_true, decide_eq_true_eq] at h
      rw [← h.1, ← h.2]
      exact q
    · rename_i q
      simp only [Bool.and_eq_true, decide_eq_true_eq] at h
      have h3 : (t p.1 p.2 || t p.2 p.1) = true := h3
      rw [Bool.or_eq_true] at h3
      rcases h3 with h3 | h3
      · exact absurd h3 q
      · rw [← h.1, ← h.2]
        exact h3
  · intro h
    have hne : i ≠ j := fun e => by
      subst e
      rw [so.1 i hi] at h
      cases h
    have ha := so.asym hi hj h
    rcases Nat.lt_or_gt_of_ne hne with q | q
    · refine ⟨(i, j), up_mem.mpr ⟨q, hj, by show (t i j || t j i) = true; rw [h] <;> rfl⟩, ?_⟩
      show (if t i j then decide (i = i) && decide (j = j) else decide (j = i) && decide (i = j)) = true
      rw [if_pos h, decide_eq_true rfl, decide_eq_true rfl] <;> rfl
    · refine ⟨(j, i), up_mem.mpr ⟨q, hi, by show (t j i || t i j) = true; rw [h, Bool.or_true]⟩, ?_⟩
      show (if t j i then decide (j = i) && decide (i = j) else decide (i = i) && decide (j = j)) = true
      rw [if_neg (by rw [ha]; decide), decide_eq_true rfl, decide_eq_true rfl] <;> rfl
theorem arrows_order {n : Nat} {t : Nat → Nat → Bool} (so : StrictO n t) : arrowsB n (upTs n (symB t) n) (bitsT (upTs n (symB t) n) t) = true := by
  unfold arrowsB
  rw [goes_congr (fun i j hi hj => arr_order so hi hj)]
  exact goes_iff.mpr so.2
theorem flip_mm {p : Nat × Nat} {b : Bool} (h : p.1 < p.2) : mmP (flipP b p) = p ∧ fwB (flipP b p) = b := by
  obtain ⟨x, y⟩ := p
  have h : x < y := h
  cases b
  · refine ⟨?_, ?_⟩
    · show (min y x, max y x) = (x, y)
      rw [Nat.min_eq_right (by omega), Nat.max_eq_left (by omega)]
    · show decide (y < x) = false
      exact decide_eq_false (by omega)
  · refine ⟨?_, ?_⟩
    · show (min x y, max x y) = (x, y)
      rw [Nat.min_eq_left (by omega), Nat.max_eq_right (by omega)]
    · show decide (x < y) = true
      exact decide_eq_true h
theorem flips {ts : List (Nat × Nat)} {t : Nat → Nat → Bool} (h : ∀ p, p ∈ ts → p.1 < p.2) : (((ts.zip (bitsT ts t)).map fun z => flipP z.2 z.1).map mmP = ts) ∧ (((ts.zip (bitsT ts t)).map fun z => flipP z.2 z.1).map fwB = bitsT ts t) := by
  rw [zip_bits, List.map_map, List.map_map, List.map_map]
  constructor
  · conv => rhs; rw [← List.map_id ts]
    exact List.map_congr_left fun p hp => (flip_mm (h p hp)).1
  · rw [List.map_map]
    exact List.map_congr_left fun p hp => (flip_mm (b := t p.1 p.2) (h p hp)).2
end PL
/-! C12: bent texts, no arrows. -/
namespace PL
open PySem PySem.Spec PyProof.Rows L2 PySem.W

/-- what a join makes at most -/
def SL (ys : List Str) : Nat := (ys.map (·.length)).sum + ys.length
theorem SL_append (a b : List Str) : SL (a ++ b) = SL a + SL b := by
  unfold SL
  rw [List.map_append, List.sum_append, List.length_append]
  omega
theorem SL_cut (l : List Str) (k : Nat) : SL (l.take k) + SL (l.drop k) = SL l := by
  rw [← SL_append, List.take_append_drop]
theorem SL_take (l : List Str) (k : Nat) : SL (l.take k) ≤ SL l := by
  have := SL_cut l k
  omega
theorem SL_drop (l : List Str) (k : Nat) : SL (l.drop k) ≤ SL l := by
  have := SL_cut l k
  omega
theorem SL_rows (t : Str) : SL (rowsOf t) = t.length + 1 := (rowsOf_ok t).2
theorem join1_len {y : Str} (hy : y.length = 1) (ys : List Str) : (Txt.join y ys).length ≤ SL ys := by
  have := join_len y ys
  rw [hy, Nat.mul_one] at this
  exact this
theorem ev_join1 {Φ : Md} {ρ : Rho} {μ : Mu} {b : IE} {u : Str} {ys : List Str} (h : ev Φ b ρ μ (.lst (ys.map .str))) (hu : u.length = 1) (hl : SL ys ≤ 900000) : ev Φ (.join (.str u) b) ρ μ (.str (Txt.join u ys)) := ev_join ev_str h rfl (by
  unfold SL at hl
  rw [hu]
  unfold lim
  omega)
section
variable {Φ : Md} {ρ : Rho} {μ : Mu} {a : IE} {ls : List Str} {k : Nat} {e : IE}
theorem ev_takeS (h : ev Φ a ρ μ (.lst (ls.map .str))) (h2 : evO Φ e ρ μ (some (k : Int))) : ev Φ (.slice false a .nl e) ρ μ (.lst ((ls.take k).map .str)) := ev_slice h evO_nl h2 fun R z => ⟨_, rfl, by
  show R (.lst (cutD (ls.map .str) none (some (k : Int)))) μ
  rw [cut_take, ← List.map_take]
  exact z⟩
theorem ev_dropS (h : ev Φ a ρ μ (.lst (ls.map .str))) (h2 : evO Φ e ρ μ (some (k : Int))) : ev Φ (.slice false a e .nl) ρ μ (.lst ((ls.drop k).map .str)) := ev_slice h h2 evO_nl fun R z => ⟨_, rfl, by
  show R (.lst (cutD (ls.map .str) (some (k : Int)) none)) μ
  rw [cut_drop, ← List.map_drop]
  exact z⟩
theorem ev_midS {e2 : IE} {m : Nat} (h : ev Φ a ρ μ (.lst (ls.map .str))) (h2 : evO Φ e ρ μ (some (k : Int))) (h3 : evO Φ e2 ρ μ (some (m : Int))) : ∃ ys : List Str, SL ys ≤ SL ls ∧ ev Φ (.slice false a e e2) ρ μ (.lst (ys.map .str)) := by
  refine ⟨(ls.drop (HT.sIx (ls.map D.str).length 0 (some (k : Int)))).take (HT.sIx (ls.map D.str).length (ls.map D.str).length (some (m : Int)) - HT.sIx (ls.map D.str).length 0 (some (k : Int))), Nat.le_trans (SL_take _ _) (SL_drop _ _), ev_slice h h2 h3 fun R z => ⟨_, rfl, ?_⟩⟩
  show R (.lst (((ls.map D.str).drop _).take _)) μ
  rw [← List.map_drop, ← List.map_take]
  exact z
theorem ev_addS {b : IE} {ys : List Str} (h : ev Φ a ρ μ (.lst (ls.map .str))) (h2 : ev Φ b ρ μ (.lst (ys.map .str))) (hl : SL ls + SL ys ≤ 900000) : ev Φ (.bin .add false a b) ρ μ (.lst ((ls ++ ys).map .str)) := by
  rw [List.map_append]
  refine ev_addL h h2 ?_
  rw [List.length_map, List.length_map]
  unfold SL at hl
  unfold lim
  omega
end
theorem some_sem {Φ : Md} {ρ : Rho} {μ : Mu} {b : IE} {h : Addr} {ds : List D} {M : MO} {R : RD} {X : RX} {v : Nat} (f : Φ.fns "_law_some" = some sp_some) (hv : ρ[v]? = some (some (.ref h))) (hb : ev Φ b ρ μ (.lst ds)) (h0 : 0 < ds.length) (h1 : ds.length ≤ 1000000) (e : μ h = some M) (hM : IsHand M) (q : ∀ d M', d ∈ ds → IsHand M' → R d (μ.set h M')) :
    semE Φ (.call "_law_some" (.cs (.var v) (.cs b .nl))) ρ μ R X := call_sem f (evA_cs (ev_var hv) (evA_cs hb evA_nl) _ _ ⟨h, ds, M, rfl, rfl, h0, h1, e, hM, q⟩)
theorem adds_sem {Φ : Md} {ρ : Rho} {μ : Mu} {a b : IE} {m : Bool} {R : RD} {X : RX} (h : semE Φ a ρ μ (fun x μ1 => semE Φ b ρ μ1 (fun y μ2 => opBin .add m x y μ2 R) X) X) : semE Φ (.bin .add m a b) ρ μ R X := h
theorem strs_le {ds : List D} {d : D} {k : Nat} (h : (ds.all fun d => match d with
    | .str s => decide (s.length ≤ k)
    | _ => false) = true) (hd : d ∈ ds) : ∃ s, d = .str s ∧ s.length ≤ k := by
  have := List.all_eq_true.mp h d hd
  cases d with
  | str s => exact ⟨s, rfl, of_decide_eq_true this⟩
  | _ => cases this
def sp_bent : DSp := sp2 fun x y μ R X => ∃ (h : Addr) (t : Str) (M : MO), x = .ref h ∧ y = .str t ∧ 0 < t.length ∧ t.length ≤ 100000 ∧ μ h = some M ∧ IsHand M ∧ ∀ (t' : Str) M', t'.length ≤ 800000 → IsHand M' → R (.str t') (μ.set h M')
theorem m_bent {Φ : Md} (f1 : Φ.fns "_law_draw" = some sp_draw) (f2 : Φ.fns "_law_some" = some sp_some) : ∀ x y μ R X, (∃ (h : Addr) (t : Str) (M : MO), x = .ref h ∧ y = .str t ∧ 0 < t.length ∧ t.length ≤ 100000 ∧ μ h = some M ∧ IsHand M ∧ ∀ (t' : Str) M', t'.length ≤ 800000 → IsHand M' → R (.str t') (μ.set h M')) → semS Φ i__law_bent (startD 7 [x, y]) μ (dEnd R X) := by
  rintro _ _ μ R X ⟨h, t, M, rfl, rfl, h0, hl, e, hM, q⟩
  have hlim : t.length ≤ lim := by unfold lim; omega
  refine asg2_sem (draw_sem (m := t.length) f1 (ev_var rfl) (ev_lens (ev_var (i := 1) (d := .str t) rfl) hlim) h0 (by omega) e hM fun at_ M1 hat hM1 => ?_)
  refine draw_sem (m := 6) f1 (ev_var rfl) ev_int (by omega) (by omega) Mu.set_same hM1 fun kd M2 _ hM2 => ?_
  rw [Mu.set_set]
  show semS Φ _ [some (.ref h), some (.str t), some (natD at_), some (natD kd), none, none, none] _ _
  have kt : ∀ (j : Int) (ρ : Rho) (μ : Mu), ρ[3]? = some (some (natD kd)) → evT Φ (.cmp .eq (.var 3) (.int j)) ρ μ (decide ((kd : Int) = j)) := fun j ρ μ h => evT_cmp (ev_var h) ev_int fun R z => cmp_eq z
  have cl : ∀ lo hi, (cutS t lo hi).length ≤ t.length := fun lo hi => cutS_length t lo hi
  have vt : ∀ {ρ : Rho} {μ : Mu}, ρ[1]? = some (some (.str t)) → ev Φ (.var 1) ρ μ (.str t) := fun h => ev_var h
  refine if_ev (kt 0 _ _ rfl) (fun _ => ?_) (fun _ => ?_)
  · have s1 := ev_slices (Φ := Φ) (μ := μ.set h M2) (ρ := [some (.ref h), some (.str t), some (natD at_), some (natD kd), none, none, none]) (m := false) (lo := .nl) (hi := .var 2) (vt rfl) evO_nl (evO_var (k := (at_ : Int)) rfl) hlim
    have s2 := ev_slices (Φ := Φ) (μ := μ.set h M2) (ρ := [some (.ref h), some (.str t), some (natD at_), some (natD kd), none, none, none]) (m := false) (lo := .bin .add false (.var 2) (.int 1)) (hi := .nl) (vt rfl) (evO_bin (ev_add (ev_var (i := 2) (d := .int (at_ : Int)) rfl) ev_int)) evO_nl hlim
    have c1 := cl none (some (at_ : Int))
    have c2 := cl (some ((at_ : Int) + 1)) none
    exact ret_E (ev_adds s1 s2 (by unfold lim; omega)) (ret0 (X := X) (q _ M2 (by rw [str_app_len]; omega) hM2))
  refine if_ev (kt 1 _ _ rfl) (fun _ => ?_) (fun _ => ?_)
  · refine ret_semE (adds_sem (adds_sem (ev_slices (m := false) (lo := .nl) (hi := .var 2) (vt rfl) evO_nl (evO_var (k := (at_ : Int)) rfl) hlim _ _ ?_)))
    refine some_sem (v := 0) f2 rfl (ev_const (d := .lst [.str "\n", .str " ", .str "0", .str "7", .str "x", .str "tie", .str "-", .str "1"]) rfl) (by decide) (by decide) Mu.set_same hM2 fun d M3 hd hM3 => ?_
    rw [Mu.set_set]
    obtain ⟨s, rfl, hs⟩ := strs_le (k := 8) (by decide +kernel) hd
    have c1 := cl none (some (at_ : Int))
    have c2 := cl (some (at_ : Int)) none
    refine ⟨by unfold lim; omega, ?_⟩
    refine ev_slices (m := false) (lo := .var 2) (hi := .nl) (vt rfl) (evO_var (k := (at_ : Int)) rfl) evO_nl hlim _ _ ⟨by rw [str_app_len]; unfold lim; omega, ?_⟩
    exact ret0 (X := X) (q _ M3 (by rw [str_app_len, str_app_len]; omega) hM3)
  have hr := rowsOf_ok t
  have hSL := SL_rows t
  refine asg_ev (d := .lst ((rowsOf t).map .str)) (ev_split (vt rfl) ev_str (by decide) hlim) ?_
  generalize rowsOf t = rows at hr hSL
  have hrp : 0 < rows.length := List.length_pos_iff.mpr hr.1
  have hrl : rows.length ≤ 100001 := by unfold SL at hSL; omega
  have elen : ev Φ (.bi .len false (.cs (.var 4) .nl)) [some (.ref h), some (.str t), some (natD at_), some (natD kd), some (.lst (rows.map .str)), none, none] (μ.set h M2) (.int (rows.length : Nat)) := by
    have := ev_len (m := false) (ev_var (Φ := Φ) (μ := μ.set h M2) (i := 4) (ρ := [some (.ref h), some (.str t), some (natD at_), some (natD kd), some (.lst (rows.map .str)), none, none]) (d := .lst (rows.map .str)) rfl) rfl
    rw [List.length_map] at this
    exact this
  refine asg_sem (draw_sem (m := rows.length) f1 (ev_var rfl) elen hrp (by omega) Mu.set_same hM2 fun ln M3 hln hM3 => ?_)
  rw [Mu.set_set]
  show semS Φ _ [some (.ref h), some (.str t), some (natD at_), some (natD kd), some (.lst (rows.map .str)), some (natD ln), none] _ _
  have vr : ∀ {ρ : Rho} {μ : Mu}, ρ[4]? = some (some (.lst (rows.map .str))) → ev Φ (.var 4) ρ μ (.lst (rows.map .str)) := fun h => ev_var h
  have ln1 : ∀ {ρ : Rho} {μ : Mu}, ρ[5]? = some (some (natD ln)) → evO Φ (.bin .add false (.var 5) (.int 1)) ρ μ (some ((ln + 1 : Nat) : Int)) := fun {ρ μ} h => by
    have := ev_add (m := false) (ev_var (Φ := Φ) (μ := μ) (d := .int (ln : Int)) h) (ev_int (n := 1))
    rw [show ((ln : Int) + 1) = ((ln + 1 : Nat) : Int) by omega] at this
    exact evO_bin this
  have ln0 : ∀ {ρ : Rho} {μ : Mu}, ρ[5]? = some (some (natD ln)) → evO Φ (.var 5) ρ μ (some (ln : Int)) := fun {ρ μ} h => evO_var h
  have t1 := SL_take rows ln
  have t2 := SL_drop rows (ln + 1)
  have t3 := SL_drop rows ln
  refine if_ev (kt 2 _ _ rfl) (fun _ => ?_) (fun _ => ?_)
  · have j := ev_join1 (Φ := Φ) (ρ := [some (.ref h), some (.str t), some (natD at_), some (natD kd), some (.lst (rows.map .str)), some (natD ln), none]) (μ := μ.set h M3) (u := "\n") (ev_addS (ev_takeS (vr rfl) (ln0 rfl)) (ev_dropS (vr rfl) (ln1 rfl)) (by omega)) rfl (by rw [SL_append]; omega)
    have jl := join1_len (y := "\n") rfl (rows.take ln ++ rows.drop (ln + 1))
    rw [SL_append] at jl
    exact ret_E j (ret0 (X := X) (q _ M3 (by omega) hM3))
  refine if_ev (kt 3 _ _ rfl) (fun _ => ?_) (fun _ => ?_)
  · obtain ⟨ys, hys, em⟩ := ev_midS (Φ := Φ) (μ := μ.set h M3) (ρ := [some (.ref h), some (.str t), some (natD at_), some (natD kd), some (.lst (rows.map .str)), some (natD ln), none]) (vr rfl) (ln0 rfl) (ln1 rfl)
    have j := ev_join1 (Φ := Φ) (ρ := [some (.ref h), some (.str t), some (natD at_), some (natD kd), some (.lst (rows.map .str)), some (natD ln), none]) (μ := μ.set h M3) (u := "\n") (ev_addS (ev_addS (ev_takeS (vr rfl) (ln0 rfl)) em (by omega)) (ev_dropS (vr rfl) (ln0 rfl)) (by rw [SL_append]; omega)) rfl (by rw [SL_append, SL_append]; omega)
    have jl := join1_len (y := "\n") rfl (rows.take ln ++ ys ++ rows.drop ln)
    rw [SL_append, SL_append] at jl
    exact ret_E j (ret0 (X := X) (q _ M3 (by omega) hM3))
  have gl : rows[ln]? = some (rows.getD ln "") := getD_some hln
  have llen : (rows.getD ln "").length ≤ 100000 := by
    have := sum_mem (f := fun x : Str => x.length) (List.mem_of_getElem? gl)
    unfold SL at hSL
    omega
  have hw := wordsOf_ok (rows.getD ln "")
  refine asg_ev (d := .lst ((wordsOf (rows.getD ln "")).map .str)) (ev_split (ev_idxN (n := ln) (vr rfl) (ev_var (i := 5) (d := natD ln) rfl) rfl rfl (by rw [List.getElem?_map, gl] <;> rfl)) ev_str (by decide) (by unfold lim; omega)) ?_
  generalize wordsOf (rows.getD ln "") = ws at hw
  show semS Φ _ [some (.ref h), some (.str t), some (natD at_), some (natD kd), some (.lst (rows.map .str)), some (natD ln), some (.lst (ws.map .str))] _ _
  have e3 : evT Φ (.cmp .eq (.bi .len false (.cs (.var 6) .nl)) (.int 3)) [some (.ref h), some (.str t), some (natD at_), some (natD kd), some (.lst (rows.map .str)), some (natD ln), some (.lst (ws.map .str))] (μ.set h M3) (decide (((ws.map D.str).length : Int) = 3)) := evT_cmp (ev_len (ev_var (i := 6) (d := .lst (ws.map .str)) rfl) rfl) ev_int fun R z => cmp_eq z
  refine if_ev (evT_and (kt 4 _ _ rfl) fun _ => e3) (fun z => ?_) (fun _ => ?_)
  · rw [Bool.and_eq_true, decide_eq_true_eq, decide_eq_true_eq, List.length_map] at z
    obtain ⟨w0, w1, w2, rfl⟩ : ∃ a b c, ws = [a, b, c] := by
      match ws, z.2 with
      | [a, b, c], _ => exact ⟨a, b, c, rfl⟩
      | [], z => cases z
      | [a], z => simp at z
      | [a, b], z => simp at z
      | a :: b :: c :: d :: r, z => simp only [List.length_cons] at z; omega
    have hw2 := hw.2
    simp only [List.map_cons, List.map_nil, List.sum_cons, List.sum_nil, List.length_cons, List.length_nil] at hw2
    have ix : ∀ (k : Nat) (w : Str), [w0, w1, w2][k]? = some w → ev Φ (.idx (.var 6) (.int (k : Nat))) [some (.ref h), some (.str t), some (natD at_), some (natD kd), some (.lst (rows.map .str)), some (natD ln), some (.lst ([w0, w1, w2].map .str))] (μ.set h M3) (.str w) := fun k w hk => ev_idxN (n := k) (ev_var (i := 6) (d := .lst ([w0, w1, w2].map .str)) rfl) ev_int rfl rfl (by rw [List.getElem?_map, hk] <;> rfl)
    have jw := ev_join1 (u := " ") (ys := [w0, w2, w1]) (ev_lst (evA_cs (ix 0 w0 rfl) (evA_cs (ix 2 w2 rfl) (evA_cs (ix 1 w1 rfl) evA_nl)))) rfl (by unfold SL; simp only [List.map_cons, List.map_nil, List.sum_cons, List.sum_nil, List.length_cons, List.length_nil]; omega)
    have jwl := join1_len (y := " ") rfl [w0, w2, w1]
    have s0 : SL [w0, w2, w1] ≤ 100001 := by unfold SL; simp only [List.map_cons, List.map_nil, List.sum_cons, List.sum_nil, List.length_cons, List.length_nil]; omega
    generalize Txt.join " " [w0, w2, w1] = nw at jw jwl
    have sn : SL [nw] ≤ 100002 := by unfold SL; simp only [List.map_cons, List.map_nil, List.sum_cons, List.sum_nil, List.length_cons, List.length_nil]; omega
    have j := ev_join1 (Φ := Φ) (ρ := [some (.ref h), some (.str t), some (natD at_), some (natD kd), some (.lst (rows.map .str)), some (natD ln), some (.lst ([w0, w1, w2].map .str))]) (μ := μ.set h M3) (u := "\n") (ev_addS (ys := rows.drop (ln + 1)) (ev_addS (ls := rows.take ln) (ys := [nw]) (ev_takeS (vr rfl) (ln0 rfl)) (ev_lst (evA_cs jw evA_nl)) (by omega)) (ev_dropS (vr rfl) (ln1 rfl)) (by rw [SL_append]; omega)) rfl (by rw [SL_append, SL_append]; omega)
    have jl := join1_len (y := "\n") rfl (rows.take ln ++ [nw] ++ rows.drop (ln + 1))
    rw [SL_append, SL_append] at jl
    exact ret_E j (ret0 (X := X) (q _ M3 (by omega) hM3))
  · refine ret_semE (adds_sem (vt rfl _ _ (some_sem (v := 0) f2 rfl (ev_const (d := .lst [.str "\n", .str "x", .str "web 1 0\n", .str " "]) rfl) (by decide) (by decide) Mu.set_same hM3 fun d M4 hd hM4 => ?_)))
    rw [Mu.set_set]
    obtain ⟨s, rfl, hs⟩ := strs_le (k := 8) (by decide +kernel) hd
    exact ⟨by unfold lim; omega, ret0 (X := X) (q _ M4 (by rw [str_app_len]; omega) hM4)⟩
/-! ### no arrows -/
def BadL (k : Nat) (d : D) : Prop := okD d = true ∧ lenOk d ∧ letB k d = false
theorem bad_len {k : Nat} {ls : List D} (ho : okDs ls = true) (hl : ls.length ≤ 900000) (h : ls.length ≠ k) : BadL k (.tup ls) := ⟨ho, hl, by
  show (decide (ls.length = k) && _) = false
  rw [decide_eq_false h] <;> rfl⟩
theorem bad_let {k : Nat} {ls : List D} {d : D} (ho : okDs ls = true) (hl : ls.length ≤ 900000) (hd : d ∈ ls) (h : isLet d = false) : BadL k (.tup ls) := ⟨ho, hl, by
  show (_ && ls.all isLet) = false
  have : ls.all isLet = false := List.all_eq_false.mpr ⟨d, hd, by rw [h]; decide⟩
  rw [this, Bool.and_false]⟩
theorem okDs_take {xs : List D} (h : okDs xs = true) (k : Nat) : okDs (xs.take k) = true := by
  have := h
  rw [← List.take_append_drop k xs, okDs_append, Bool.and_eq_true] at this
  exact this.1
theorem okDs_drop {xs : List D} (h : okDs xs = true) (k : Nat) : okDs (xs.drop k) = true := by
  have := h
  rw [← List.take_append_drop k xs, okDs_append, Bool.and_eq_true] at this
  exact this.2
theorem ev_takeT {Φ : Md} {ρ : Rho} {μ : Mu} {a e : IE} {ls : List D} {k : Nat} {m : Bool} (h : ev Φ a ρ μ (.tup ls)) (h2 : evO Φ e ρ μ (some (k : Int))) : ev Φ (.slice m a .nl e) ρ μ (.tup (ls.take k)) := ev_slice h evO_nl h2 fun R z => by
  show R (.tup (cutD ls none (some (k : Int)))) μ
  rw [cut_take]
  exact z
theorem ev_dropT {Φ : Md} {ρ : Rho} {μ : Mu} {a e : IE} {ls : List D} {k : Nat} {m : Bool} (h : ev Φ a ρ μ (.tup ls)) (h2 : evO Φ e ρ μ (some (k : Int))) : ev Φ (.slice m a e .nl) ρ μ (.tup (ls.drop k)) := ev_slice h h2 evO_nl fun R z => by
  show R (.tup (cutD ls (some (k : Int)) none)) μ
  rw [cut_drop]
  exact z
theorem evO_int {Φ : Md} {ρ : Rho} {μ : Mu} {n : Int} : evO Φ (.int n) ρ μ (some n) := fun R X z => z
def sp_no_arrows : DSp := sp3 fun x y z μ R X => ∃ (h : Addr) (bs : List Bool) (M : MO), x = .ref h ∧ z = .tup (bs.map letD) ∧ bs.length ≤ 600 ∧ μ h = some M ∧ IsHand M ∧ ∀ d M', BadL bs.length d → IsHand M' → R d (μ.set h M')
theorem m_no_arrows {Φ : Md} (f1 : Φ.fns "_law_draw" = some sp_draw) (f2 : Φ.fns "_law_some" = some sp_some) : ∀ x y z μ R X, (∃ (h : Addr) (bs : List Bool) (M : MO), x = .ref h ∧ z = .tup (bs.map letD) ∧ bs.length ≤ 600 ∧ μ h = some M ∧ IsHand M ∧ ∀ d M', BadL bs.length d → IsHand M' → R d (μ.set h M')) → semS Φ i__law_no_arrows (startD 5 [x, y, z]) μ (dEnd R X) := by
  rintro _ y _ μ R X ⟨h, bs, M, rfl, rfl, hl, e, hM, q⟩
  have ok0 := okDs_lets bs
  have hL : (bs.map letD).length = bs.length := List.length_map _
  generalize hk : bs.length = k at hl q hL
  generalize bs.map letD = L at ok0 hL
  have v2 : ∀ {ρ : Rho} {μ : Mu}, ρ[2]? = some (some (.tup L)) → ev Φ (.var 2) ρ μ (.tup L) := fun h => ev_var h
  refine asg_ev (d := .lst [.lst L, .tup (L ++ [.str ">"]), .non, .str "?", .int 0, .dK [], .tup (L ++ [.str "<", .str ">"])]) (ev_lst (evA_cs (ev_list (v2 rfl) rfl) (evA_cs (ev_addT (v2 rfl) (ev_tup (evA_cs ev_str evA_nl)) (by show _ + 1 ≤ _; unfold lim; omega)) (evA_cs ev_non (evA_cs ev_str (evA_cs ev_int (evA_cs ev_dnew (evA_cs (ev_addT (v2 rfl) (ev_tup (evA_cs ev_str (evA_cs ev_str evA_nl))) (by show _ + 2 ≤ _; unfold lim; omega)) evA_nl)))))))) ?_
  have b1 : ∀ d, d ∈ [D.lst L, .tup (L ++ [.str ">"]), .non, .str "?", .int 0, .dK [], .tup (L ++ [.str "<", .str ">"])] → BadL k d := fun d hd => by
    simp only [List.mem_cons, List.not_mem_nil, or_false] at hd
    rcases hd with rfl | rfl | rfl | rfl | rfl | rfl | rfl
    · exact ⟨ok0, trivial, rfl⟩
    · exact bad_len (by rw [okDs_append, ok0] <;> rfl) (by rw [List.length_append]; show _ + 1 ≤ _; omega) (by rw [List.length_append]; show _ + 1 ≠ _; omega)
    · exact ⟨rfl, trivial, rfl⟩
    · exact ⟨rfl, trivial, rfl⟩
    · exact ⟨rfl, trivial, rfl⟩
    · exact ⟨rfl, trivial, rfl⟩
    · exact bad_len (by rw [okDs_append, ok0] <;> rfl) (by rw [List.length_append]; show _ + 2 ≤ _; omega) (by rw [List.length_append]; show _ + 2 ≠ _; omega)
  generalize hL1 : [D.lst L, .tup (L ++ [.str ">"]), .non, .str "?", .int 0, .dK [], .tup (L ++ [.str "<", .str ">"])] = L1 at b1
  have l1 : L1.length = 7 := by rw [← hL1] <;> rfl
  have fin : ∀ (L2 : List D) (o : Option D) (M1 : MO), 0 < L2.length → L2.length ≤ 100 → (∀ d, d ∈ L2 → BadL k d) → IsHand M1 → semS Φ (.sq (.ret (.call "_law_some" (.cs (.var 0) (.cs (.var 3) .nl)))) .nop) [some (.ref h), some y, some (.tup L), some (.lst L2), o] (μ.set h M1) (dEnd R X) := fun L2 o M1 h0 h1 hb hM1 =>
    ret_semE (some_sem (v := 0) f2 rfl (ev_var (i := 3) (d := .lst L2) rfl) h0 (by omega) Mu.set_same hM1 fun d M' hd hM' => by
      rw [Mu.set_set]
      exact ret0 (X := X) (q d M' (hb d hd) hM'))
  have elen : ∀ {ρ : Rho} {μ : Mu}, ρ[2]? = some (some (.tup L)) → ev Φ (.bi .len false (.cs (.var 2) .nl)) ρ μ (.int (k : Nat)) := fun {ρ μ} h => by
    have := ev_len (m := false) (v2 (μ := μ) h) rfl
    rw [hL] at this
    exact this
  show semS Φ (.sq (.ite _ _ _) _) [some (.ref h), some y, some (.tup L), some (.lst L1), none] μ _
  refine if_ev (evT_cmp (elen rfl) (ev_int (n := 0)) fun R z => cmp_gt z) (fun z => ?_) (fun _ => ?_)
  · have hk0 : 0 < k := by
      have := of_decide_eq_true z
      omega
    refine asg_sem (draw_sem (m := k) f1 (ev_var rfl) (elen rfl) hk0 (by omega) e hM fun at_ M1 hat hM1 => ?_)
    show semS Φ _ [some (.ref h), some y, some (.tup L), some (.lst L1), some (natD at_)] _ _
    refine asg_sem (bin_sem (ev_var (i := 3) (d := .lst L1) rfl _ _ ?_))
    show semA Φ (.cs _ (.cs _ (.cs _ .nl))) _ _ (fun ds μ' => mkL false ds μ' _) _
    refine cs_sem (ev_dropT (k := 1) (v2 rfl) evO_int _ _ (cs_sem (bin_sem (bin_sem (ev_takeT (k := at_) (v2 rfl) (evO_var rfl) _ _ ?_)))))
    show semA Φ (.cs _ .nl) _ _ (fun ds μ' => opBin .add false _ (.tup ds) μ' _) _
    refine one_sem (some_sem (v := 0) f2 rfl (ev_const (d := .lst [.str "", .str ">>", .non, .int 1, .str "x", .tup [.str ">"]]) rfl) (by decide) (by decide) Mu.set_same hM1 fun d M2 hd hM2 => ?_)
    have bd : isLet d = false ∧ okD d = true := by
      simp only [List.mem_cons, List.not_mem_nil, or_false] at hd
      rcases hd with rfl | rfl | rfl | rfl | rfl | rfl <;> exact ⟨by decide, by decide⟩
    rw [Mu.set_set]
    refine ⟨by rw [List.length_take]; show _ + 1 ≤ _; unfold lim; omega, ?_⟩
    have a1 : evO Φ (.bin .add false (.var 4) (.int 1)) [some (.ref h), some y, some (.tup L), some (.lst L1), some (natD at_)] (μ.set h M2) (some ((at_ + 1 : Nat) : Int)) := by
      have := ev_add (m := false) (ev_var (Φ := Φ) (μ := μ.set h M2) (i := 4) (ρ := [some (.ref h), some y, some (.tup L), some (.lst L1), some (natD at_)]) (d := .int (at_ : Int)) rfl) (ev_int (n := 1))
      rw [show ((at_ : Int) + 1) = ((at_ + 1 : Nat) : Int) by omega] at this
      exact evO_bin this
    refine ev_dropT (k := at_ + 1) (v2 rfl) a1 _ _ ⟨by rw [List.length_append, List.length_take, List.length_drop]; show _ + 1 + _ ≤ _; unfold lim; omega, ?_⟩
    refine evA_cs (ev_tup evA_nl) evA_nl _ _ ?_
    refine ⟨_, _, rfl, rfl, by rw [l1]; show 7 + 3 ≤ lim; decide, ?_⟩
    refine fin _ _ M2 (by rw [List.length_append, l1]; omega) (by rw [List.length_append, l1]; show 7 + 3 ≤ 100; decide) (fun d' hd' => ?_) hM2
    rcases List.mem_append.mp hd' with hd' | hd'
    · exact b1 d' hd'
    simp only [List.mem_cons, List.not_mem_nil, or_false] at hd'
    rcases hd' with rfl | rfl | rfl
    · exact bad_len (okDs_drop ok0 1) (by rw [List.length_drop]; omega) (by rw [List.length_drop]; omega)
    · refine bad_let (d := d) ?_ ?_ (by simp) bd.1
      · rw [okDs_append, okDs_append, okDs_take ok0, okDs_drop ok0]
        show (true && (okD d && true) && true) = true
        rw [bd.2] <;> rfl
      · rw [List.length_append, List.length_append, List.length_take, List.length_drop]
        show _ + 1 + _ ≤ _
        omega
    · exact bad_len rfl (Nat.zero_le _) (by show 0 ≠ k; omega)
  · have := fin L1 none M (by omega) (by omega) b1 hM
    rw [Mu.set_self e] at this
    exact this
end PL
/-! C13: the law. -/
namespace PL
open PySem PySem.Spec PyProof.Rows L2 PySem.W

theorem pure_web {k n : Nat} {ts : List (Nat × Nat)} (h : ts.length ≤ 900000) : pureD (k + 3) (webD n ts) := ⟨by show 2 ≤ lim; decide, fun d hd => by
  simp only [List.mem_cons, List.not_mem_nil, or_false] at hd
  rcases hd with rfl | rfl
  · trivial
  · refine ⟨by rw [List.length_map]; unfold lim; omega, fun d hd => ?_⟩
    obtain ⟨p, _, rfl⟩ := List.mem_map.mp hd
    exact ⟨by show 2 ≤ lim; decide, fun d hd => by
      simp only [List.mem_cons, List.not_mem_nil, or_false] at hd
      rcases hd with rfl | rfl <;> (cases k <;> trivial)⟩⟩
theorem pure_lets {k : Nat} {bs : List Bool} (h : bs.length ≤ 900000) : pureD (k + 1) (.tup (bs.map letD)) := ⟨by rw [List.length_map]; unfold lim; omega, fun d hd => by
  obtain ⟨b, _, rfl⟩ := List.mem_map.mp hd
  cases k <;> trivial⟩
theorem pure_two {k : Nat} {a b : D} (ha : pureD k a) (hb : pureD k b) : pureD (k + 1) (.tup [a, b]) := ⟨by show 2 ≤ lim; decide, fun d hd => by
  simp only [List.mem_cons, List.not_mem_nil, or_false] at hd
  rcases hd with rfl | rfl
  · exact ha
  · exact hb⟩
theorem pure_tell {k : Nat} {s : Str} {b : D} (hb : pureD (k + 1) b) : pureD (k + 2) (.lst [.str s, b]) := ⟨by show 2 ≤ lim; decide, fun d hd => by
  simp only [List.mem_cons, List.not_mem_nil, or_false] at hd
  rcases hd with rfl | rfl
  · trivial
  · exact hb⟩
theorem pure_one {k : Nat} {s : Str} : pureD (k + 1) (.lst [.str s]) := ⟨by show 1 ≤ lim; decide, fun d hd => by
  simp only [List.mem_cons, List.not_mem_nil, or_false] at hd
  subst hd
  cases k <;> trivial⟩
theorem pure_out {k : Nat} {t : Str} : pureD 5 (outT k t) := by
  have go0 : ∀ r, readT t "web" "tie" = r → pureD 5 (out0 r) := fun r hr => by
    cases r with
    | inr e => exact pure_tell (k := 3) trivial
    | inl p =>
      have hl := read_len hr
      show pureD 5 (match isWebB (webD p.1 p.2) with
        | true => .lst [.str "told", webD p.1 p.2]
        | false => .lst [.str "web"])
      split
      · exact pure_tell (k := 3) (pure_web (k := 1) (by omega))
      · exact pure_one (k := 4)
  have go1 : ∀ r, readT t "arrows" "arrow" = r → pureD 5 (out1 r) := fun r hr => by
    cases r with
    | inr e => exact pure_tell (k := 3) trivial
    | inl p =>
      have hl := read_len hr
      show pureD 5 (match isWebB (webD p.1 (p.2.map mmP)) with
        | true => (match arrowsB p.1 (p.2.map mmP) (p.2.map fwB) with
          | true => .lst [.str "told", arrD p.1 p.2]
          | false => .lst [.str "arrows"])
        | false => .lst [.str "web"])
      split
      · split
        · exact pure_tell (k := 3) (pure_two (k := 3) (pure_web (k := 0) (by rw [List.length_map]; omega)) (pure_lets (k := 2) (by rw [List.length_map]; omega)))
        · exact pure_one (k := 4)
      · exact pure_one (k := 4)
  match k with
  | 0 => exact go0 _ rfl
  | k + 1 => exact go1 _ rfl
theorem lined_pos {r : List D} {rs : List (List D)} : 0 < (linedS (r :: rs)).length := by
  rw [lined_join, TL.len_tl, TL.join_eq, TL.tl_join]
  show 0 < (TL.joinL [10] (((r :: rs).map rowJ ++ [("" : Str)]).map TL.tl)).length
  rw [List.map_append]
  show 0 < (TL.joinL [10] (((r :: rs).map rowJ).map TL.tl ++ [[]])).length
  rw [joinL_end]
  simp
  omega
/-- one of some numbers, drawn -/
theorem pick_sem {Φ : Md} {ρ : Rho} {μ : Mu} {h : Addr} {M : MO} {R : RD} {X : RX} {cs : IE} {ms : List Nat} {v : Nat} (f : Φ.fns "_law_draw" = some sp_draw) (hv : ρ[v]? = some (some (.ref h))) (hc : cE cs = some (.lst (ms.map natD))) (h0 : 0 < ms.length) (h1 : ms.length ≤ 1000) (e : μ h = some M) (hM : IsHand M)
    (q : ∀ m M', m ∈ ms → IsHand M' → R (natD m) (μ.set h M')) : semE Φ (.idx cs (.call "_law_draw" (.cs (.var v) (.cs (.int (ms.length : Nat)) .nl)))) ρ μ R X := by
  refine idx_sem (ev_const hc _ _ (draw_sem (m := ms.length) f (ev_var hv) ev_int h0 (by omega) e hM fun k M' hk hM' => ?_))
  exact .inl ⟨ms.map natD, (k : Int), natD ms[k], rfl, rfl, atI_nat (by rw [List.getElem?_map, List.getElem?_eq_getElem hk] <;> rfl), q _ M' (List.getElem_mem hk) hM'⟩
def arrTail (zs : List ((Nat × Nat) × Bool)) : List (List D) := zs.map fun z => [.str "arrow", natD (flipP z.2 z.1).1, natD (flipP z.2 z.1).2]
theorem tail_ev {Φ : Md} {ρ : Rho} {μ : Mu} {n : Nat} {ts : List (Nat × Nat)} {bs : List Bool} (h4 : ∀ d, ((wipeD ρ [10]).set 10 (some d))[4]? = some (some (webD n ts))) (h5 : ∀ d, ((wipeD ρ [10]).set 10 (some d))[5]? = some (some (.tup (bs.map letD)))) (h10 : ∀ d, ((wipeD ρ [10]).set 10 (some d))[10]? = some (some d)) (h5' : ρ[5]? = some (some (.tup (bs.map letD)))) (hb : bs.length = ts.length) (hl : ts.length ≤ 600) :
    ev Φ (.lc false (.bin .add false (.tup (.cs (.str "arrow") .nl)) (.ite (.cmp .eq (.idx (.var 5) (.var 10)) (.str ">")) (.idx (.idx (.var 4) (.int 1)) (.var 10)) (.rev false (.idx (.idx (.var 4) (.int 1)) (.var 10))))) [10] false (.range1 (.bi .len false (.cs (.var 5) .nl))) false .nl [10]) ρ μ (.lst ((arrTail (ts.zip bs)).map .tup)) := by
  have el := ev_len (m := false) (ev_var (Φ := Φ) (μ := μ) h5') rfl
  rw [List.length_map] at el
  have e1 := ev_lc (Φ := Φ) (μ := μ) (ρ := ρ) (c := .nl) (el := .bin .add false (.tup (.cs (.str "arrow") .nl)) (.ite (.cmp .eq (.idx (.var 5) (.var 10)) (.str ">")) (.idx (.idx (.var 4) (.int 1)) (.var 10)) (.rev false (.idx (.idx (.var 4) (.int 1)) (.var 10))))) (tg := [10]) (own := [10]) (tp := false) (f := fun d => match d with
    | .int i => .tup (((arrTail (ts.zip bs)).getD i.toNat []))
    | _ => .non) (evP_rangeN el (by omega)).i (by rw [List.length_map, List.length_range]; unfold lim; omega) (fun d hd R q => by
      obtain ⟨k, hk, rfl⟩ := List.mem_map.mp hd
      have hk := List.mem_range.mp hk
      have hb' : bs[k]? = some bs[k] := List.getElem?_eq_getElem hk
      have ht : ts[k]? = some ts[k] := List.getElem?_eq_getElem (by omega)
      have hz : (ts.zip bs)[k]? = some (ts[k], bs[k]) := List.getElem?_zip_eq_some.mpr ⟨ht, hb'⟩
      generalize bs[k] = b at hb' hz
      generalize ts[k] = p at ht hz
      have eg : (arrTail (ts.zip bs)).getD k [] = [.str "arrow", natD (flipP b p).1, natD (flipP b p).2] := by
        unfold arrTail
        rw [List.getD_eq_getElem?_getD, List.getElem?_map, hz] <;> rfl
      refine q _ ?_
      show ev Φ _ _ μ (.tup ((arrTail (ts.zip bs)).getD ((k : Int)).toNat []))
      rw [Int.toNat_natCast, eg]
      have ex : ev Φ (.idx (.idx (.var 4) (.int 1)) (.var 10)) ((wipeD ρ [10]).set 10 (some (natD k))) μ (pairD p) := ev_idxN (n := k) (ev_idx (d := .tup (ts.map pairD)) (ev_var (h4 _)) ev_int rfl rfl) (ev_var (h10 _)) rfl rfl (by rw [List.getElem?_map, ht] <;> rfl)
      refine ev_addT (xs := [.str "arrow"]) (ys := [natD (flipP b p).1, natD (flipP b p).2]) (ev_tup (evA_cs ev_str evA_nl)) (ev_ite (p := b) (evT_cmp (x := .str (if b then ">" else "<")) (ev_idxN (n := k) (ev_var (h5 _)) (ev_var (h10 _)) rfl rfl (by rw [List.getElem?_map, hb'] <;> rfl)) ev_str fun R z => cmp_eqs (by
        have : decide ((if b then (">" : Str) else "<") = ">") = b := by cases b <;> decide
        rw [this]
        exact z)) (fun z => ?_) (fun z => ?_)) (by show 1 + 2 ≤ lim; decide)
      · subst z
        exact ex
      · subst z
        exact ev_revT (xs := [natD p.1, natD p.2]) ex)
  rw [List.map_map] at e1
  have e2 : (List.range bs.length).map ((fun d => match d with
    | .int i => D.tup (((arrTail (ts.zip bs)).getD i.toNat []))
    | _ => .non) ∘ natD) = (arrTail (ts.zip bs)).map D.tup := by
    apply List.ext_getElem?
    intro k
    have hz : (arrTail (ts.zip bs)).length = bs.length := by unfold arrTail; rw [List.length_map, List.length_zip]; omega
    rw [List.getElem?_map, List.getElem?_map]
    by_cases hk : k < bs.length
    · rw [List.getElem?_range hk, getD_some (by omega)] <;> rfl
    · rw [List.getElem?_eq_none (by rw [List.length_range]; omega), List.getElem?_eq_none (by omega)] <;> rfl
  rw [e2] at e1
  exact e1
def sp_law : DSp := sp1 fun s μ R X => ∃ ns : List Int, s = .rd (ns.map .int) ∧ ns.length ≤ 1000 ∧ ∀ μ', R (.bl true) μ'
def RhoL (a b : D) (ρ : Rho) : Prop := ∃ o2 o3 o4 o5 o6 o7 o8 o9 o10 o11 o12 o13 o14 o15 : Option D, ρ = [some a, some b, o2, o3, o4, o5, o6, o7, o8, o9, o10, o11, o12, o13, o14, o15]
/-- the law's slots from the texts on -/
def RhoT (a b tn web od ar tb one oth : D) (ρ : Rho) : Prop := ∃ o8 o9 o10 o12 o13 o14 o15 : Option D, ρ = [some a, some b, some tn, some web, some od, some ar, some tb, some one, o8, o9, o10, some oth, o12, o13, o14, o15]
theorem kept_evT {Φ : Md} {ρ : Rho} {μ : Mu} {a b : IE} {d : D} {n : Nat} (f : Φ.fns "_law_kept" = some (sp_kept n)) (h1 : ev Φ a ρ μ d) (h2 : ev Φ b ρ μ d) (hp : pureD n d) : evT Φ (.not (.call "_law_kept" (.cs a (.cs b .nl)))) ρ μ false := evT_not (evT_call (p := true) f (evA_cs h1 (evA_cs h2 evA_nl)) fun R X z => ⟨rfl, hp, z⟩)
theorem Lreg {n : Nat} {ts : List (Nat × Nat)} (g : GoodTs n ts) : ∀ p, p ∈ ts → p.1 < n ∧ p.2 < n := fun p hp => ⟨by have := g.b p hp; omega, (g.b p hp).2⟩
theorem m_law {Φ : Md} (fh : Φ.fns "_law_hand" = some sp_hand) (fa : Φ.fns "_law_any_web" = some sp_any) (fd : Φ.fns "_law_draw" = some sp_draw) (fs : Φ.fns "_law_some" = some sp_some) (fo : Φ.fns "_law_order" = some sp_order) (fl : Φ.fns "_law_lined" = some sp_lined) (fk : Φ.fns "_law_kept" = some (sp_kept 5))
    (f1 : Φ.fns "web_text" = some sp_web_text) (f2 : Φ.fns "read_web" = some sp_read_web) (f3 : Φ.fns "arrows_text" = some sp_arrows_text) (f4 : Φ.fns "read_arrows" = some sp_read_arrows) (fb : Φ.fns "_law_bent" = some sp_bent) (fou : Φ.fns "_law_outcome" = some sp_outcome) (fdu : Φ.fns "_law_due" = some sp_due)
    (fn : Φ.fns "_law_no_web" = some sp_no_web) (fna : Φ.fns "_law_no_arrows" = some sp_no_arrows) (sb1 : Φ.sub "NoWeb" "NoWeb" = some true) (sb2 : Φ.sub "NoArrows" "NoArrows" = some true) : ∀ x μ R X, (∃ ns : List Int, x = .rd (ns.map .int) ∧ ns.length ≤ 1000 ∧ ∀ μ', R (.bl true) μ') → semS Φ i_law (startD 16 [x]) μ (dEnd R X) := by
  rintro _ μ R X ⟨ns, rfl, hl, q⟩
  refine asg_sem (call_sem fh (evA_cs (ev_var (d := .rd (ns.map .int)) rfl) evA_nl _ _ ⟨ns, rfl, hl, fun a M0 ha hM0 => ?_⟩))
  refine for_evP (evP_rangeN (n := 5) (ev_int (n := 5)) (by decide)) ?_
  refine forT_by (fun i ρ1 μ1 => ∃ M, RhoL (.rd (ns.map .int)) (.ref a) ρ1 ∧ IsHand M ∧ μ1 = μ.set a M) ⟨M0, ⟨_, _, _, _, _, _, _, _, _, _, _, _, _, _, rfl⟩, hM0, rfl⟩ (fun _ _ _ _ _ => trivial) (fun i d ρ1 μ1 N hd hh k => ?_) (fun ρ1 μ1 hh => ?_)
  · obtain ⟨M1, ⟨o2, o3, o4, o5, o6, o7, o8, o9, o10, o11, o12, o13, o14, o15, rfl⟩, hM1, rfl⟩ := hh
    -- the web
    refine asg_sem (call_sem fa (cs_sem (ev_var (i := 1) (d := .ref a) rfl _ _ (one_sem (pick_sem (ms := [5, 9, 24]) (v := 1) fd rfl rfl (by decide) (by decide) Mu.set_same hM1 fun m M2 hm hM2 => ?_)))))
    rw [Mu.set_set]
    have hm24 : 1 ≤ m ∧ m ≤ 24 := by
      simp only [List.mem_cons, List.not_mem_nil, or_false] at hm
      omega
    refine ⟨a, m, M2, rfl, rfl, hm24.1, hm24.2, Mu.set_same, hM2, fun n ts M3 hn1 hn2 g hM3 => ?_⟩
    rw [Mu.set_set]
    show semS Φ _ [some (.rd (ns.map .int)), some (.ref a), some d, some (webD n ts), o4, o5, o6, o7, o8, o9, o10, o11, o12, o13, o14, o15] (μ.set a M3) _
    -- the order
    refine unp_sem (call_sem fo (cs_sem (ev_var (i := 1) (d := .ref a) rfl _ _ (one_sem (pick_sem (ms := [5, 12, 24]) (v := 1) fd rfl rfl (by decide) (by decide) Mu.set_same hM3 fun m2 M4 hm2 hM4 => ?_)))))
    rw [Mu.set_set]
    have hm224 : 1 ≤ m2 ∧ m2 ≤ 24 := by
      simp only [List.mem_cons, List.not_mem_nil, or_false] at hm2
      omega
    refine ⟨a, m2, M4, rfl, rfl, hm224.1, hm224.2, Mu.set_same, hM4, fun n2 t M5 hn21 hn22 so hM5 => ⟨_, rfl, rfl, ?_⟩⟩
    rw [Mu.set_set, letters_bits]
    have g2 : GoodTs n2 (upTs n2 (symB t) n2) := up_good (by omega)
    have ao := arrows_order so
    have fl2 := flips (t := t) (fun p hp => (g2.b p hp).1)
    generalize hts2 : upTs n2 (symB t) n2 = ts2 at g2 ao fl2
    have hbl : (bitsT ts2 t).length = ts2.length := by unfold bitsT; rw [List.length_map]
    generalize hbs : bitsT ts2 t = bs at ao fl2 hbl
    show semS Φ _ [some (.rd (ns.map .int)), some (.ref a), some d, some (webD n ts), some (webD n2 ts2), some (.tup (bs.map letD)), some (matD n2 t), o7, o8, o9, o10, o11, o12, o13, o14, o15] (μ.set a M5) _
    obtain ⟨w1, w2, w3⟩ := good_web hn1 (by omega) g
    obtain ⟨v1, v2, v3⟩ := good_web hn21 (by omega) g2
    have rok := webRows_ok (n := n) (ts := ts) (by omega) g.l (Lreg g)
    have zl : (ts2.zip bs).length = ts2.length := by rw [List.length_zip]; omega
    have zb : ∀ z, z ∈ ts2.zip bs → z.1.1 < n2 ∧ z.1.2 < n2 := fun z hz => Lreg g2 z.1 (List.of_mem_zip (a := z.1) (b := z.2) hz).1
    have rok2 := arrRows_ok (n := n2) (m := ts2.length) (zs := ts2.zip bs) (by omega) g2.l (by rw [zl]; exact g2.l) zb
    have gl := g.l
    have g2l := g2.l
    have lb : letB ts2.length (.tup (bs.map letD)) = true := by
      have := let_ok bs
      rw [hbl] at this
      exact this
    -- the texts
    refine asg_sem (call_sem fl (evA_cs (webRows_ev (v := 3) (t := 8) rfl (fun d => rfl) gl) evA_nl _ _ ⟨webRows n ts, rfl, rok, ?_⟩))
    refine asg_ev (tail_ev (n := n2) (ts := ts2) (bs := bs) (fun d => rfl) (fun d => rfl) (fun d => rfl) rfl hbl g2l) ?_
    have one_len := lined_len rok
    have oth_len := lined_len rok2
    have one_pos : 0 < (linedS (webRows n ts)).length := lined_pos
    have oth_pos : 0 < (linedS (arrRows n2 (ts2.zip bs) ts2.length)).length := lined_pos
    have back1 := read_web_back (n := n) (by omega) g
    have back2 := read_arrows_back (n := n2) (zs := ts2.zip bs) (by omega) (by omega) zb
    rw [zl] at back2
    have rl1 : (webRows n ts).length ≤ 700 := by show (ts.map _).length + 1 ≤ 700; rw [List.length_map]; omega
    have rl2 : (arrRows n2 (ts2.zip bs) ts2.length).length ≤ 700 := by show ((ts2.zip bs).map _).length + 1 ≤ 700; rw [List.length_map]; omega
    refine asg_sem (call_sem fl (evA_cs (ev_addL (xs := [.tup [.str "arrows", natD n2, natD ts2.length]]) (ys := (arrTail (ts2.zip bs)).map .tup) ?_ (ev_var (i := 9) (d := .lst ((arrTail (ts2.zip bs)).map .tup)) rfl) ?_) evA_nl _ _ ⟨arrRows n2 (ts2.zip bs) ts2.length, rfl, rok2, ?_⟩))
    · have w1 : ev Φ (.idx (.var 4) (.int 1)) [some (.rd (ns.map .int)), some (.ref a), some d, some (webD n ts), some (webD n2 ts2), some (.tup (bs.map letD)), some (matD n2 t), some (.str (linedS (webRows n ts))), o8, some (.lst ((arrTail (ts2.zip bs)).map .tup)), o10, o11, o12, o13, o14, o15] (μ.set a M5) (.tup (ts2.map pairD)) := ev_idx (ev_var (i := 4) (d := webD n2 ts2) rfl) ev_int rfl rfl
      have el := ev_len (m := false) w1 rfl
      rw [List.length_map] at el
      exact ev_lst (evA_cs (ev_tup (evA_cs ev_str (evA_cs (ev_idx (d := natD n2) (ev_var (i := 4) (d := webD n2 ts2) rfl) ev_int rfl rfl) (evA_cs el evA_nl)))) evA_nl)
    · rw [List.length_map]
      show 1 + ((ts2.zip bs).map _).length ≤ lim
      rw [List.length_map]
      unfold lim
      omega
    generalize hone : linedS (webRows n ts) = one at one_len one_pos back1
    generalize hoth : linedS (arrRows n2 (ts2.zip bs) ts2.length) = oth at oth_len oth_pos back2
    show semS Φ _ [some (.rd (ns.map .int)), some (.ref a), some d, some (webD n ts), some (webD n2 ts2), some (.tup (bs.map letD)), some (matD n2 t), some (.str one), o8, some (.lst ((arrTail (ts2.zip bs)).map .tup)), o10, some (.str oth), o12, o13, o14, o15] (μ.set a M5) _
    -- told and read back
    have c1 : ev Φ (.call "web_text" (.cs (.var 3) .nl)) [some (.rd (ns.map .int)), some (.ref a), some d, some (webD n ts), some (webD n2 ts2), some (.tup (bs.map letD)), some (matD n2 t), some (.str one), o8, some (.lst ((arrTail (ts2.zip bs)).map .tup)), o10, some (.str oth), o12, o13, o14, o15] (μ.set a M5) (.str one) := ev_call f1 (evA_cs (ev_var (i := 3) (d := webD n ts) rfl) evA_nl) fun R X z => ⟨w2, w3, (fun e => by rw [w1] at e; cases e), fun _ => ⟨n, ts, rfl, gl, by rw [hone]; exact z⟩⟩
    have c2 : ev Φ (.call "read_web" (.cs (.var 7) .nl)) [some (.rd (ns.map .int)), some (.ref a), some d, some (webD n ts), some (webD n2 ts2), some (.tup (bs.map letD)), some (matD n2 t), some (.str one), o8, some (.lst ((arrTail (ts2.zip bs)).map .tup)), o10, some (.str oth), o12, o13, o14, o15] (μ.set a M5) (webD n ts) := ev_call f2 (evA_cs (ev_var (i := 7) (d := .str one) rfl) evA_nl) fun R X z => ⟨rfl, (fun e => absurd rfl (e one)), fun t' ht' => by
      cases ht'
      refine ⟨by omega, (fun e he => by rw [back1] at he; cases he), fun n' ps' he => ?_⟩
      rw [back1] at he
      cases he
      exact ⟨fun _ => z, fun e => by rw [w1] at e; cases e⟩⟩
    refine if_ev (p := false) (evT_or (kept_evT fk c1 (ev_var (i := 7) (d := .str one) rfl) trivial) fun _ => kept_evT fk c2 (ev_var (i := 3) (d := webD n ts) rfl) (pure_web (k := 2) (by omega))) (fun z => by cases z) (fun _ => ?_)
    have c3 : ev Φ (.call "arrows_text" (.cs (.var 4) (.cs (.var 5) .nl))) [some (.rd (ns.map .int)), some (.ref a), some d, some (webD n ts), some (webD n2 ts2), some (.tup (bs.map letD)), some (matD n2 t), some (.str one), o8, some (.lst ((arrTail (ts2.zip bs)).map .tup)), o10, some (.str oth), o12, o13, o14, o15] (μ.set a M5) (.str oth) := ev_call f3 (evA_cs (ev_var (i := 4) (d := webD n2 ts2) rfl) (evA_cs (ev_var (i := 5) (d := .tup (bs.map letD)) rfl) evA_nl)) fun R X z => ⟨v2, v3, okDs_lets bs, by show (bs.map letD).length ≤ 900000; rw [List.length_map]; omega, (fun e => by rw [v1] at e; cases e), fun _ => ⟨n2, ts2, rfl, g2l, fun _ => by rw [bits_let, hoth]; exact z, fun e => by rw [lb, bits_let, ao] at e; cases e⟩⟩
    have c4 : ev Φ (.call "read_arrows" (.cs (.var 11) .nl)) [some (.rd (ns.map .int)), some (.ref a), some d, some (webD n ts), some (webD n2 ts2), some (.tup (bs.map letD)), some (matD n2 t), some (.str one), o8, some (.lst ((arrTail (ts2.zip bs)).map .tup)), o10, some (.str oth), o12, o13, o14, o15] (μ.set a M5) (.tup [webD n2 ts2, .tup (bs.map letD)]) := ev_call f4 (evA_cs (ev_var (i := 11) (d := .str oth) rfl) evA_nl) fun R X z => ⟨rfl, (fun e => absurd rfl (e oth)), fun t' ht' => by
      cases ht'
      refine ⟨by omega, (fun e he => by rw [back2] at he; cases he), fun n' ps' he => ?_⟩
      rw [back2] at he
      cases he
      rw [fl2.1, fl2.2]
      refine ⟨(fun e => by rw [v1] at e; cases e), fun _ => ⟨fun _ => ?_, fun e => by rw [ao] at e; cases e⟩⟩
      unfold arrD
      rw [fl2.1, fl2.2]
      exact z⟩
    refine if_ev (p := false) (evT_or (kept_evT fk c3 (ev_var (i := 11) (d := .str oth) rfl) trivial) fun _ => kept_evT fk c4 (ev_tup (evA_cs (ev_var (i := 4) (d := webD n2 ts2) rfl) (evA_cs (ev_var (i := 5) (d := .tup (bs.map letD)) rfl) evA_nl))) (pure_two (k := 4) (pure_web (k := 1) (by omega)) (pure_lets (k := 3) (by omega)))) (fun z => by cases z) (fun _ => ?_)
    -- bent ones
    refine for_evP (evP_rangeN (n := 8) (ev_int (n := 8)) (by decide)) ?_
    refine forT_by (fun j ρ1 μ1 => ∃ M, RhoT (.rd (ns.map .int)) (.ref a) d (webD n ts) (webD n2 ts2) (.tup (bs.map letD)) (matD n2 t) (.str one) (.str oth) ρ1 ∧ IsHand M ∧ μ1 = μ.set a M) ⟨M5, ⟨_, _, _, _, _, _, _, rfl⟩, hM5, rfl⟩ (fun _ _ _ _ _ => trivial) (fun j d2 ρ1 μ1 N2 hd2 hh k2 => ?_) (fun ρ1 μ1 hh => ?_)
    · obtain ⟨M6, ⟨o8, o9, o10, o12, o13, o14, o15, rfl⟩, hM6, rfl⟩ := hh
      refine asg_sem (draw_sem (m := 2) fd (ev_var (i := 1) rfl) ev_int (by omega) (by omega) Mu.set_same hM6 fun kd M7 hkd hM7 => ?_)
      rw [Mu.set_set]
      show semS Φ _ [some (.rd (ns.map .int)), some (.ref a), some d, some (webD n ts), some (webD n2 ts2), some (.tup (bs.map letD)), some (matD n2 t), some (.str one), o8, o9, o10, some (.str oth), some d2, some (natD kd), o14, o15] (μ.set a M7) _
      obtain ⟨tx, htx, htx1, htx2⟩ : ∃ tx : Str, [D.str one, .str oth][kd]? = some (.str tx) ∧ 0 < tx.length ∧ tx.length ≤ 100000 := by
        match kd, hkd with
        | 0, _ => exact ⟨one, rfl, one_pos, by omega⟩
        | 1, _ => exact ⟨oth, rfl, oth_pos, by omega⟩
      refine asg_sem (call_sem fb (evA_cs (ev_var (i := 1) (d := .ref a) rfl) (evA_cs (ev_idxN (n := kd) (d := .str tx) (ev_lst (evA_cs (ev_var (i := 7) (d := .str one) rfl) (evA_cs (ev_var (i := 11) (d := .str oth) rfl) evA_nl))) (ev_var (i := 13) (d := natD kd) rfl) rfl rfl htx) evA_nl) _ _ ⟨a, tx, M7, rfl, rfl, htx1, htx2, Mu.set_same, hM7, fun bt M8 hbt hM8 => ?_⟩))
      rw [Mu.set_set]
      show semS Φ _ [some (.rd (ns.map .int)), some (.ref a), some d, some (webD n ts), some (webD n2 ts2), some (.tup (bs.map letD)), some (matD n2 t), some (.str one), o8, o9, o10, some (.str oth), some d2, some (natD kd), some (.str bt), o15] (μ.set a M8) _
      have co : ev Φ (.call "_law_outcome" (.cs (.var 13) (.cs (.var 14) .nl))) [some (.rd (ns.map .int)), some (.ref a), some d, some (webD n ts), some (webD n2 ts2), some (.tup (bs.map letD)), some (matD n2 t), some (.str one), o8, o9, o10, some (.str oth), some d2, some (natD kd), some (.str bt), o15] (μ.set a M8) (outT kd bt) := ev_call fou (evA_cs (ev_var (i := 13) (d := natD kd) rfl) (evA_cs (ev_var (i := 14) (d := .str bt) rfl) evA_nl)) fun R X z => ⟨kd, hkd, rfl, rfl, (fun t' e => by cases e; exact hbt), z⟩
      have cd : ev Φ (.call "_law_due" (.cs (.var 13) (.cs (.var 14) .nl))) [some (.rd (ns.map .int)), some (.ref a), some d, some (webD n ts), some (webD n2 ts2), some (.tup (bs.map letD)), some (matD n2 t), some (.str one), o8, o9, o10, some (.str oth), some d2, some (natD kd), some (.str bt), o15] (μ.set a M8) (outT kd bt) := ev_call fdu (evA_cs (ev_var (i := 13) (d := natD kd) rfl) (evA_cs (ev_var (i := 14) (d := .str bt) rfl) evA_nl)) fun R X z => ⟨kd, bt, hkd, rfl, rfl, hbt, z⟩
      refine if_ev (p := false) (kept_evT fk co cd pure_out) (fun z => by cases z) (fun _ => ?_)
      exact k2 _ _ ⟨M8, ⟨_, _, _, _, _, _, _, rfl⟩, hM8, rfl⟩
    · obtain ⟨M6, ⟨o8, o9, o10, o12, o13, o14, o15, rfl⟩, hM6, rfl⟩ := hh
      -- no texts
      refine for_evP (evP_rangeN (n := 2) (ev_int (n := 2)) (by decide)) ?_
      refine forT_by (fun j ρ1 μ1 => ∃ M, RhoT (.rd (ns.map .int)) (.ref a) d (webD n ts) (webD n2 ts2) (.tup (bs.map letD)) (matD n2 t) (.str one) (.str oth) ρ1 ∧ IsHand M ∧ μ1 = μ.set a M) ⟨M6, ⟨_, _, _, _, _, _, _, rfl⟩, hM6, rfl⟩ (fun _ _ _ _ _ => trivial) (fun j d2 ρ1 μ1 N2 hd2 hh k2 => ?_) (fun ρ1 μ1 hh => ?_)
      · obtain ⟨M7, ⟨o8, o9, o10, o12, o13, o14, o15, rfl⟩, hM7, rfl⟩ := hh
        have hj : j < 2 := by
          have := (List.getElem?_eq_some_iff.mp hd2).1
          simpa using this
        rw [range_at hj] at hd2
        cases hd2
        show semS Φ _ [some (.rd (ns.map .int)), some (.ref a), some d, some (webD n ts), some (webD n2 ts2), some (.tup (bs.map letD)), some (matD n2 t), some (.str one), o8, o9, o10, some (.str oth), o12, some (natD j), o14, o15] (μ.set a M7) _
        refine if_sem (show semT Φ (.call "_law_kept" _) _ _ _ _ from ⟨_, fk, cs_sem (call_sem fou (cs_sem (ev_var (i := 13) (d := natD j) rfl _ _ (one_sem (some_sem (v := 1) fs rfl (ds := [.non, .int 5, .lst [.str "web 1 0"], .tup [.str "web"], .dK []]) (ev_lst (evA_cs ev_non (evA_cs ev_int (evA_cs (ev_const rfl) (evA_cs (ev_const rfl) (evA_cs ev_dnew evA_nl)))))) (by decide) (by decide) Mu.set_same hM7 fun bd M8 hbd hM8 => ?_)))))⟩)
        rw [Mu.set_set]
        have hb : tyable (μ.set a M8) bd = true ∧ (∀ t', bd ≠ .str t') ∧ outD j bd = .lst [.str "text", .int 0] := by
          simp only [List.mem_cons, List.not_mem_nil, or_false] at hbd
          rcases hbd with rfl | rfl | rfl | rfl | rfl <;> exact ⟨rfl, (fun t' e => by cases e), rfl⟩
        refine ⟨j, hj, rfl, hb.1, (fun t' e => absurd e (hb.2.1 t')), ?_⟩
        rw [hb.2.2]
        refine one_sem (ev_const (d := .lst [.str "text", .int 0]) rfl _ _ ⟨rfl, pure_tell (k := 3) trivial, ?_⟩)
        exact k2 _ _ ⟨M8, ⟨_, _, _, _, _, _, _, rfl⟩, hM8, rfl⟩
      · obtain ⟨M7, ⟨o8, o9, o10, o12, o13, o14, o15, rfl⟩, hM7, rfl⟩ := hh
        -- no webs
        refine for_evP (evP_rangeN (n := 2) (ev_int (n := 2)) (by decide)) ?_
        refine forT_by (fun j ρ1 μ1 => ∃ M, RhoT (.rd (ns.map .int)) (.ref a) d (webD n ts) (webD n2 ts2) (.tup (bs.map letD)) (matD n2 t) (.str one) (.str oth) ρ1 ∧ IsHand M ∧ μ1 = μ.set a M) ⟨M7, ⟨_, _, _, _, _, _, _, rfl⟩, hM7, rfl⟩ (fun _ _ _ _ _ => trivial) (fun j d2 ρ1 μ1 N2 hd2 hh k2 => ?_) (fun ρ1 μ1 hh => ?_)
        · obtain ⟨M8, ⟨o8, o9, o10, o12, o13, o14, o15, rfl⟩, hM8, rfl⟩ := hh
          have hj : j < 2 := by
            have := (List.getElem?_eq_some_iff.mp hd2).1
            simpa using this
          rw [range_at hj] at hd2
          cases hd2
          show semS Φ _ [some (.rd (ns.map .int)), some (.ref a), some d, some (webD n ts), some (webD n2 ts2), some (.tup (bs.map letD)), some (matD n2 t), some (.str one), o8, o9, o10, some (.str oth), o12, some (natD j), o14, o15] (μ.set a M8) _
          refine try_sem (if_ev (evT_cmp (x := natD j) (y := .int 0) (p := decide ((j : Int) = 0)) (ev_var (i := 13) rfl) ev_int fun R z => cmp_eq z) (fun _ => ?_) (fun _ => ?_))
          · refine expr_sem (call_sem f1 (one_sem (call_sem fn (evA_cs (ev_var (i := 1) (d := .ref a) rfl) (evA_cs (ev_var (i := 3) (d := webD n ts) rfl) evA_nl) _ _ ⟨a, n, ts, M8, rfl, rfl, hn1, by omega, g, Mu.set_same, hM8, fun w M9 bad hM9 => ?_⟩))))
            rw [Mu.set_set]
            refine ⟨bad.1, bad.2.1, fun _ => ⟨true, sb1, ?_⟩, fun z => by rw [bad.2.2] at z; cases z⟩
            refine asg_ev (ev_lst evA_nl) ?_
            exact k2 _ _ ⟨M9, ⟨_, _, _, _, _, _, _, rfl⟩, hM9, rfl⟩
          · refine expr_sem (call_sem f3 (cs_sem (call_sem fn (evA_cs (ev_var (i := 1) (d := .ref a) rfl) (evA_cs (ev_var (i := 3) (d := webD n ts) rfl) evA_nl) _ _ ⟨a, n, ts, M8, rfl, rfl, hn1, by omega, g, Mu.set_same, hM8, fun w M9 bad hM9 => ?_⟩))))
            rw [Mu.set_set]
            refine evA_cs (ev_tup evA_nl) evA_nl _ _ ⟨bad.1, bad.2.1, rfl, Nat.zero_le _, fun _ => ⟨true, sb1, ?_⟩, fun z => by rw [bad.2.2] at z; cases z⟩
            refine asg_ev (ev_lst evA_nl) ?_
            exact k2 _ _ ⟨M9, ⟨_, _, _, _, _, _, _, rfl⟩, hM9, rfl⟩
        · obtain ⟨M8, ⟨o8, o9, o10, o12, o13, o14, o15, rfl⟩, hM8, rfl⟩ := hh
          -- no arrows
          refine try_sem (expr_sem (call_sem f3 (cs_sem (ev_var (i := 4) (d := webD n2 ts2) rfl _ _ (one_sem (call_sem fna (evA_cs (ev_var (i := 1) (d := .ref a) rfl) (evA_cs (ev_var (i := 4) (d := webD n2 ts2) rfl) (evA_cs (ev_var (i := 5) (d := .tup (bs.map letD)) rfl) evA_nl)) _ _ ⟨a, bs, M8, rfl, rfl, by omega, Mu.set_same, hM8, fun w M9 bad hM9 => ?_⟩)))))))
          rw [Mu.set_set]
          rw [hbl] at bad
          refine ⟨v2, v3, bad.1, bad.2.1, (fun e => by rw [v1] at e; cases e), fun _ => ⟨n2, ts2, rfl, g2l, (fun z => by rw [bad.2.2] at z; cases z), fun _ => ⟨true, sb2, ?_⟩⟩⟩
          refine asg_ev (ev_lst evA_nl) ?_
          exact k _ _ ⟨M9, ⟨_, _, _, _, _, _, _, _, _, _, _, _, _, _, rfl⟩, hM9, rfl⟩
  · exact ret_ev ev_bl (q _)
end PL
set_option maxHeartbeats 0
namespace Hd
open PySem PySem.Spec PyProof.Rows L2
def d_is_integer : He.DefD := ⟨("is_integer", none), "is_integer", "is_integer", defArgs s_is_integer, defBody s_is_integer, defScope s_is_integer, [], []⟩
def d_is_between : He.DefD := ⟨("is_between", none), "is_between", "is_between", defArgs s_is_between, defBody s_is_between, defScope s_is_between, [], []⟩
def d_is_tie : He.DefD := ⟨("is_tie", none), "is_tie", "is_tie", defArgs s_is_tie, defBody s_is_tie, defScope s_is_tie, [], []⟩
def d_are_ties : He.DefD := ⟨("are_ties", none), "are_ties", "are_ties", defArgs s_are_ties, defBody s_are_ties, defScope s_are_ties, [], []⟩
def d_is_web : He.DefD := ⟨("is_web", none), "is_web", "is_web", defArgs s_is_web, defBody s_is_web, defScope s_is_web, [], []⟩
def d_need_web : He.DefD := ⟨("need_web", none), "need_web", "need_web", defArgs s_need_web, defBody s_need_web, defScope s_need_web, [], []⟩
def d_are_letters : He.DefD := ⟨("are_letters", none), "are_letters", "are_letters", defArgs s_are_letters, defBody s_are_letters, defScope s_are_letters, [], []⟩
def d_behind_of : He.DefD := ⟨("behind_of", none), "behind_of", "behind_of", defArgs s_behind_of, defBody s_behind_of, defScope s_behind_of, [], []⟩
def d_are_arrows_of : He.DefD := ⟨("are_arrows_of", none), "are_arrows_of", "are_arrows_of", defArgs s_are_arrows_of, defBody s_are_arrows_of, defScope s_are_arrows_of, [], []⟩
def d_need_arrows : He.DefD := ⟨("need_arrows", none), "need_arrows", "need_arrows", defArgs s_need_arrows, defBody s_need_arrows, defScope s_need_arrows, [], []⟩
def d_lined : He.DefD := ⟨("lined", none), "lined", "lined", defArgs s_lined, defBody s_lined, defScope s_lined, [], []⟩
def d_web_text : He.DefD := ⟨("web_text", none), "web_text", "web_text", defArgs s_web_text, defBody s_web_text, defScope s_web_text, [], []⟩
def d_arrows_text : He.DefD := ⟨("arrows_text", none), "arrows_text", "arrows_text", defArgs s_arrows_text, defBody s_arrows_text, defScope s_arrows_text, [], []⟩
def d_number_of : He.DefD := ⟨("number_of", none), "number_of", "number_of", defArgs s_number_of, defBody s_number_of, defScope s_number_of, [], []⟩
def d_pair_in : He.DefD := ⟨("pair_in", none), "pair_in", "pair_in", defArgs s_pair_in, defBody s_pair_in, defScope s_pair_in, [], []⟩
def d_pairs_read : He.DefD := ⟨("pairs_read", none), "pairs_read", "pairs_read", defArgs s_pairs_read, defBody s_pairs_read, defScope s_pairs_read, [], []⟩
def d_read_web : He.DefD := ⟨("read_web", none), "read_web", "read_web", defArgs s_read_web, defBody s_read_web, defScope s_read_web, [], []⟩
def d_read_arrows : He.DefD := ⟨("read_arrows", none), "read_arrows", "read_arrows", defArgs s_read_arrows, defBody s_read_arrows, defScope s_read_arrows, [], []⟩
def d__law_hand : He.DefD := ⟨("_law_hand", none), "_law_hand", "_law_hand", defArgs s__law_hand, defBody s__law_hand, defScope s__law_hand, [], []⟩
def d__law_draw : He.DefD := ⟨("_law_draw", none), "_law_draw", "_law_draw", defArgs s__law_draw, defBody s__law_draw, defScope s__law_draw, [], []⟩
def d__law_some : He.DefD := ⟨("_law_some", none), "_law_some", "_law_some", defArgs s__law_some, defBody s__law_some, defScope s__law_some, [], []⟩
def d__law_kept : He.DefD := ⟨("_law_kept", none), "_law_kept", "_law_kept", defArgs s__law_kept, defBody s__law_kept, defScope s__law_kept, [], []⟩
def d__law_mixed : He.DefD := ⟨("_law_mixed", none), "_law_mixed", "_law_mixed", defArgs s__law_mixed, defBody s__law_mixed, defScope s__law_mixed, [], []⟩
def d__law_web : He.DefD := ⟨("_law_web", none), "_law_web", "_law_web", defArgs s__law_web, defBody s__law_web, defScope s__law_web, [], []⟩
def d__law_table : He.DefD := ⟨("_law_table", none), "_law_table", "_law_table", defArgs s__law_table, defBody s__law_table, defScope s__law_table, [], []⟩
def d__law_random : He.DefD := ⟨("_law_random", none), "_law_random", "_law_random", defArgs s__law_random, defBody s__law_random, defScope s__law_random, [], []⟩
def d__law_put_in : He.DefD := ⟨("_law_put_in", none), "_law_put_in", "_law_put_in", defArgs s__law_put_in, defBody s__law_put_in, defScope s__law_put_in, [], []⟩
def d__law_named : He.DefD := ⟨("_law_named", none), "_law_named", "_law_named", defArgs s__law_named, defBody s__law_named, defScope s__law_named, [], []⟩
def d__law_known : He.DefD := ⟨("_law_known", none), "_law_known", "_law_known", defArgs s__law_known, defBody s__law_known, defScope s__law_known, [], []⟩
def d__law_nested : He.DefD := ⟨("_law_nested", none), "_law_nested", "_law_nested", defArgs s__law_nested, defBody s__law_nested, defScope s__law_nested, [], []⟩
def d__law_any_web : He.DefD := ⟨("_law_any_web", none), "_law_any_web", "_law_any_web", defArgs s__law_any_web, defBody s__law_any_web, defScope s__law_any_web, [], []⟩
def d__law_closed : He.DefD := ⟨("_law_closed", none), "_law_closed", "_law_closed", defArgs s__law_closed, defBody s__law_closed, defScope s__law_closed, [], []⟩
def d__law_order_table : He.DefD := ⟨("_law_order_table", none), "_law_order_table", "_law_order_table", defArgs s__law_order_table, defBody s__law_order_table, defScope s__law_order_table, [], []⟩
def d__law_put_behind : He.DefD := ⟨("_law_put_behind", none), "_law_put_behind", "_law_put_behind", defArgs s__law_put_behind, defBody s__law_put_behind, defScope s__law_put_behind, [], []⟩
def d__law_letters : He.DefD := ⟨("_law_letters", none), "_law_letters", "_law_letters", defArgs s__law_letters, defBody s__law_letters, defScope s__law_letters, [], []⟩
def d__law_order : He.DefD := ⟨("_law_order", none), "_law_order", "_law_order", defArgs s__law_order, defBody s__law_order, defScope s__law_order, [], []⟩
def d__law_arrow_table : He.DefD := ⟨("_law_arrow_table", none), "_law_arrow_table", "_law_arrow_table", defArgs s__law_arrow_table, defBody s__law_arrow_table, defScope s__law_arrow_table, [], []⟩
def d__law_goes_on : He.DefD := ⟨("_law_goes_on", none), "_law_goes_on", "_law_goes_on", defArgs s__law_goes_on, defBody s__law_goes_on, defScope s__law_goes_on, [], []⟩
def d__law_are_arrows : He.DefD := ⟨("_law_are_arrows", none), "_law_are_arrows", "_law_are_arrows", defArgs s__law_are_arrows, defBody s__law_are_arrows, defScope s__law_are_arrows, [], []⟩
def d__law_no_web : He.DefD := ⟨("_law_no_web", none), "_law_no_web", "_law_no_web", defArgs s__law_no_web, defBody s__law_no_web, defScope s__law_no_web, [], []⟩
def d__law_no_arrows : He.DefD := ⟨("_law_no_arrows", none), "_law_no_arrows", "_law_no_arrows", defArgs s__law_no_arrows, defBody s__law_no_arrows, defScope s__law_no_arrows, [], []⟩
def d__law_lined : He.DefD := ⟨("_law_lined", none), "_law_lined", "_law_lined", defArgs s__law_lined, defBody s__law_lined, defScope s__law_lined, [], []⟩
def d__law_number_of : He.DefD := ⟨("_law_number_of", none), "_law_number_of", "_law_number_of", defArgs s__law_number_of, defBody s__law_number_of, defScope s__law_number_of, [], []⟩
def d__law_pair : He.DefD := ⟨("_law_pair", none), "_law_pair", "_law_pair", defArgs s__law_pair, defBody s__law_pair, defScope s__law_pair, [], []⟩
def d__law_read : He.DefD := ⟨("_law_read", none), "_law_read", "_law_read", defArgs s__law_read, defBody s__law_read, defScope s__law_read, [], []⟩
def d__law_is_web : He.DefD := ⟨("_law_is_web", none), "_law_is_web", "_law_is_web", defArgs s__law_is_web, defBody s__law_is_web, defScope s__law_is_web, [], []⟩
def d__law_due : He.DefD := ⟨("_law_due", none), "_law_due", "_law_due", defArgs s__law_due, defBody s__law_due, defScope s__law_due, [], []⟩
def d__law_outcome : He.DefD := ⟨("_law_outcome", none), "_law_outcome", "_law_outcome", defArgs s__law_outcome, defBody s__law_outcome, defScope s__law_outcome, [], []⟩
def d__law_bent : He.DefD := ⟨("_law_bent", none), "_law_bent", "_law_bent", defArgs s__law_bent, defBody s__law_bent, defScope s__law_bent, [], []⟩
def d_law : He.DefD := ⟨("law", none), "law", "law", defArgs s_law, defBody s_law, defScope s_law, [], []⟩
def cb_BadText : List Stmt := match top 4 with
  | .ClassDef _ _ _ b _ _ _ _ _ _ _ => b
  | _ => []
abbrev si_BadText : Stmt := cb_BadText.getD 0 (.Pass ⟨0, 0, 0, 0⟩)
def di_BadText : He.DefD := ⟨("BadText", some "__init__"), "__init__", "BadText.__init__", defArgs si_BadText, defBody si_BadText, defScope si_BadText, [], []⟩
def fn : List He.DefD := [d_is_integer, d_is_between, d_is_tie, d_are_ties, d_is_web, d_need_web, d_are_letters, d_behind_of, d_are_arrows_of, d_need_arrows, d_lined, d_web_text, d_arrows_text, d_number_of, d_pair_in, d_pairs_read, d_read_web, d_read_arrows, d__law_hand, d__law_draw, d__law_some, d__law_kept, d__law_mixed, d__law_web, d__law_table, d__law_random, d__law_put_in, d__law_named, d__law_known, d__law_nested, d__law_any_web, d__law_closed, d__law_order_table, d__law_put_behind, d__law_letters, d__law_order, d__law_arrow_table, d__law_goes_on, d__law_are_arrows, d__law_no_web, d__law_no_arrows, d__law_lined, d__law_number_of, d__law_pair, d__law_read, d__law_is_web, d__law_due, d__law_outcome, d__law_bent, d_law, di_BadText]
def fa0 : List He.Fa := [.glo "is_integer", .glo "is_between", .glo "is_tie", .glo "are_ties", .glo "is_web", .glo "need_web", .glo "are_letters", .glo "behind_of", .glo "are_arrows_of", .glo "need_arrows", .glo "lined", .glo "web_text", .glo "arrows_text", .glo "number_of", .glo "pair_in", .glo "pairs_read", .glo "read_web", .glo "read_arrows", .glo "_law_hand", .glo "_law_draw", .glo "_law_some", .glo "_law_kept", .glo "_law_mixed", .glo "_law_web", .glo "_law_table", .glo "_law_random", .glo "_law_put_in", .glo "_law_named", .glo "_law_known", .glo "_law_nested", .glo "_law_any_web", .glo "_law_closed", .glo "_law_order_table", .glo "_law_put_behind", .glo "_law_letters", .glo "_law_order", .glo "_law_arrow_table", .glo "_law_goes_on", .glo "_law_are_arrows", .glo "_law_no_web", .glo "_law_no_arrows", .glo "_law_lined", .glo "_law_number_of", .glo "_law_pair", .glo "_law_read", .glo "_law_is_web", .glo "_law_due", .glo "_law_outcome", .glo "_law_bent", .glo "law", .free "len", .free "isinstance", .free "int", .free "bool", .free "tuple", .free "list", .free "str", .free "abs", .free "all", .free "any"]
def fa1 : List He.Fa := [.free "sorted", .free "sum", .free "max", .free "min", .free "range", .free "enumerate", .free "set", .free "zip", .glo "ArrowError", .glo "NoWeb", .glo "NoArrows", .glo "BadText", .exc "NoWeb", .exc "NoArrows", .int "MOST_CORNERS" 24, .str "FORWARD" ">", .str "BACK" "<", .str "DIGITS" "0123456789", .exm "BadText" "BadText" true, .exm "NoWeb" "BadText" false, .exm "NoWeb" "NoWeb" true, .exm "NoArrows" "BadText" false, .exm "NoArrows" "NoWeb" false, .exm "NoArrows" "NoArrows" true, .meth "BadText" "__init__", .noat "BadText" "place"]
def fa : List He.Fa := fa0 ++ fa1
def ex (K : PySem.W.Frag) : Bool := PL.oexB K (He.ga K "BadText") && xfB K (He.ga K "BadText")
end Hd
namespace PL
open PySem PySem.Spec PyProof.Rows L2 PySem.W
theorem sci_BadText : FnScope ["self", "place"] ["self", "place"] (defScope Hd.si_BadText) := ⟨by kernel_rfl, by kernel_rfl, by kernel_rfl, by decide +kernel, by kernel_rfl, by decide +kernel, by decide +kernel⟩
def Md0 : Md where
  fns := fun _ => none
  nums := fun x => if x = "MOST_CORNERS" then some (24 : Int) else none
  sub := fun c d => if c = "BadText" ∧ d = "BadText" then some true else if c = "NoWeb" ∧ d = "BadText" then some false else if c = "NoWeb" ∧ d = "NoWeb" then some true else if c = "NoArrows" ∧ d = "BadText" then some false else if c = "NoArrows" ∧ d = "NoWeb" then some false else if c = "NoArrows" ∧ d = "NoArrows" then some true else none
  own := fun c => decide (c = "NoWeb") || decide (c = "NoArrows")
  txs := fun x => if x = "FORWARD" then some (">" : Str) else if x = "BACK" then some ("<" : Str) else if x = "DIGITS" then some ("0123456789" : Str) else none
  own1 := fun c => if c = "BadText" then some ("place" : Str) else none
def Md1 : Md := Md0.add "is_integer" sp_is_integer
def Md2 : Md := Md1.add "is_between" sp_is_between
def Md3 : Md := Md2.add "is_tie" sp_is_tie
def Md4 : Md := Md3.add "are_ties" sp_are_ties
def Md5 : Md := Md4.add "is_web" sp_is_web
def Md6 : Md := Md5.add "need_web" sp_need_web
def Md7 : Md := Md6.add "are_letters" sp_are_letters
def Md8 : Md := Md7.add "behind_of" sp_behind_of
def Md9 : Md := Md8.add "are_arrows_of" sp_are_arrows_of
def Md10 : Md := Md9.add "need_arrows" sp_need_arrows
def Md11 : Md := Md10.add "lined" sp_lined
def Md12 : Md := Md11.add "web_text" sp_web_text
def Md13 : Md := Md12.add "arrows_text" sp_arrows_text
def Md14 : Md := Md13.add "number_of" sp_num
def Md15 : Md := Md14.add "pair_in" sp_pair_in
def Md16 : Md := Md15.add "pairs_read" sp_pairs_read
def Md17 : Md := Md16.add "read_web" sp_read_web
def Md18 : Md := Md17.add "read_arrows" sp_read_arrows
def Md19 : Md := Md18.add "_law_hand" sp_hand
def Md20 : Md := Md19.add "_law_draw" sp_draw
def Md21 : Md := Md20.add "_law_some" sp_some
def Md22 : Md := Md21.add "_law_kept" (sp_kept 0)
def Md23 : Md := Md22.add "_law_kept" (sp_kept 1)
def Md24 : Md := Md23.add "_law_kept" (sp_kept 2)
def Md25 : Md := Md24.add "_law_kept" (sp_kept 3)
def Md26 : Md := Md25.add "_law_kept" (sp_kept 4)
def Md27 : Md := Md26.add "_law_kept" (sp_kept 5)
def Md28 : Md := Md27.add "_law_mixed" sp_mixed
def Md29 : Md := Md28.add "_law_web" sp_web
def Md30 : Md := Md29.add "_law_table" sp_table
def Md31 : Md := Md30.add "_law_random" sp_random
def Md32 : Md := Md31.add "_law_put_in" sp_put_in
def Md33 : Md := Md32.add "_law_named" sp_named
def Md34 : Md := Md33.add "_law_known" sp_known
def Md35 : Md := Md34.add "_law_nested" sp_nested
def Md36 : Md := Md35.add "_law_closed" sp_closed
def Md37 : Md := Md36.add "_law_put_behind" sp_behind
def Md38 : Md := Md37.add "_law_order_table" sp_otable
def Md39 : Md := Md38.add "_law_letters" sp_letters
def Md40 : Md := Md39.add "_law_order" sp_order
def Md41 : Md := Md40.add "_law_any_web" sp_any
def Md42 : Md := Md41.add "_law_arrow_table" sp_arrow_table
def Md43 : Md := Md42.add "_law_goes_on" sp_goes_on
def Md44 : Md := Md43.add "_law_are_arrows" sp_law_arrows
def Md45 : Md := Md44.add "_law_no_web" sp_no_web
def Md46 : Md := Md45.add "_law_no_arrows" sp_no_arrows
def Md47 : Md := Md46.add "_law_lined" sp_lined
def Md48 : Md := Md47.add "_law_number_of" sp_num
def Md49 : Md := Md48.add "_law_pair" sp_lpair
def Md50 : Md := Md49.add "_law_read" sp_read
def Md51 : Md := Md50.add "_law_is_web" sp_law_web2
def Md52 : Md := Md51.add "_law_due" sp_due
def Md53 : Md := Md52.add "_law_outcome" sp_outcome
def Md54 : Md := Md53.add "_law_bent" sp_bent
theorem facts {P : Program} {w : World} {K : PySem.W.Frag} {h : Heap} {mg : Str → Option Value} {f : Addr} (X : K.In h) (G : h.Ns mainGlobals mg) (hfa : mg ("law" : Str) = some (.ref f)) (c : He.SaysD Hd.fa Hd.fn K) (ce : Hd.ex K = true) :
    ∃ fd : FuncData, (∀ (s : Shared) (v : Value), BindsTo s fd ⟨[v], []⟩ [("script", v)]) ∧ ∀ base : Heap, K.In base → base.Ns mainGlobals mg → FnOk P w K mg base CX0 60 f fd ["script"] (spNo K mg sp_law) := by
  obtain ⟨fd, F0⟩ := c.def_ 49 (d := Hd.d_law) rfl
  have F : FunD K "law" "law" (defArgs Hd.s_law) (defBody Hd.s_law) (defScope Hd.s_law) [] [] (He.fAd K ("law", none)) fd := F0
  have e := hfa.symm.trans (He.glo_ok X G (c.fact 49 (f := .glo "law") rfl))
  cases e
  have b := FunD.bindsA (ps := ["script"]) F fun _ _ _ _ _ _ us hl => match us, hl with | [_], _ => rfl
  refine ⟨fd, fun s v => b s [v] rfl, fun base _ _ => ?_⟩
  have h_ArrowError : mg "ArrowError" = some (.ref (He.ga K "ArrowError")) := He.glo_ok X G (c.fact 68 (f := .glo "ArrowError") rfl)
  have h_NoWeb : mg "NoWeb" = some (.ref (He.ga K "NoWeb")) := He.glo_ok X G (c.fact 69 (f := .glo "NoWeb") rfl)
  have h_NoArrows : mg "NoArrows" = some (.ref (He.ga K "NoArrows")) := He.glo_ok X G (c.fact 70 (f := .glo "NoArrows") rfl)
  have h_BadText : mg "BadText" = some (.ref (He.ga K "BadText")) := He.glo_ok X G (c.fact 71 (f := .glo "BadText") rfl)
  have hx : ∀ c, c ∈ (["NoWeb", "NoArrows", "BadText", "ArrowError"] : List Str) → ∃ C, mg c = some (.ref C) := fun c hc => by
    simp only [List.mem_cons, List.not_mem_nil, or_false] at hc
    rcases hc with rfl | rfl | rfl | rfl
    · exact ⟨_, h_NoWeb⟩
    · exact ⟨_, h_NoArrows⟩
    · exact ⟨_, h_BadText⟩
    · exact ⟨_, h_ArrowError⟩
  have T0 : Tab P w K mg base Md0 2 := by
    refine ⟨(fun x s e => by cases (show (none : Option DSp) = some s from e)), fun x n e => ?_, fun x hx => ?_, fun a b r e => ?_, fun a e => ?_, fun x n e => ?_, fun a g e => ?_⟩
    · have e : (if x = "MOST_CORNERS" then some (24 : Int) else none) = some n := e
      split at e
      · rename_i q
        subst q
        cases e
        exact He.int_ok X G (c.fact 74 (f := .int "MOST_CORNERS" 24) rfl)
      · skip
        cases e
    · unfold bNames at hx
      simp only [List.mem_cons, List.not_mem_nil, or_false] at hx
      rcases hx with rfl | rfl | rfl | rfl | rfl | rfl | rfl | rfl | rfl | rfl | rfl | rfl | rfl | rfl | rfl | rfl | rfl | rfl
      · exact He.free_ok X G (c.fact 50 (f := .free "len") rfl)
      · exact He.free_ok X G (c.fact 51 (f := .free "isinstance") rfl)
      · exact He.free_ok X G (c.fact 52 (f := .free "int") rfl)
      · exact He.free_ok X G (c.fact 53 (f := .free "bool") rfl)
      · exact He.free_ok X G (c.fact 54 (f := .free "tuple") rfl)
      · exact He.free_ok X G (c.fact 55 (f := .free "list") rfl)
      · exact He.free_ok X G (c.fact 56 (f := .free "str") rfl)
      · exact He.free_ok X G (c.fact 57 (f := .free "abs") rfl)
      · exact He.free_ok X G (c.fact 58 (f := .free "all") rfl)
      · exact He.free_ok X G (c.fact 59 (f := .free "any") rfl)
      · exact He.free_ok X G (c.fact 60 (f := .free "sorted") rfl)
      · exact He.free_ok X G (c.fact 61 (f := .free "sum") rfl)
      · exact He.free_ok X G (c.fact 62 (f := .free "max") rfl)
      · exact He.free_ok X G (c.fact 63 (f := .free "min") rfl)
      · exact He.free_ok X G (c.fact 64 (f := .free "range") rfl)
      · exact He.free_ok X G (c.fact 65 (f := .free "enumerate") rfl)
      · exact He.free_ok X G (c.fact 66 (f := .free "set") rfl)
      · exact He.free_ok X G (c.fact 67 (f := .free "zip") rfl)
    · have e : (if a = "BadText" ∧ b = "BadText" then some true else if a = "NoWeb" ∧ b = "BadText" then some false else if a = "NoWeb" ∧ b = "NoWeb" then some true else if a = "NoArrows" ∧ b = "BadText" then some false else if a = "NoArrows" ∧ b = "NoWeb" then some false else if a = "NoArrows" ∧ b = "NoArrows" then some true else none) = some r := e
      split at e
      · rename_i q
        obtain ⟨rfl, rfl⟩ := q
        cases e
        exact ⟨_, _, h_BadText, h_BadText, He.exm_ok (c.fact 78 (f := .exm "BadText" "BadText" true) rfl)⟩
      · skip
        split at e
        · rename_i q
          obtain ⟨rfl, rfl⟩ := q
          cases e
          exact ⟨_, _, h_NoWeb, h_BadText, He.exm_ok (c.fact 79 (f := .exm "NoWeb" "BadText" false) rfl)⟩
        · skip
          split at e
          · rename_i q
            obtain ⟨rfl, rfl⟩ := q
            cases e
            exact ⟨_, _, h_NoWeb, h_NoWeb, He.exm_ok (c.fact 80 (f := .exm "NoWeb" "NoWeb" true) rfl)⟩
          · skip
            split at e
            · rename_i q
              obtain ⟨rfl, rfl⟩ := q
              cases e
              exact ⟨_, _, h_NoArrows, h_BadText, He.exm_ok (c.fact 81 (f := .exm "NoArrows" "BadText" false) rfl)⟩
            · skip
              split at e
              · rename_i q
                obtain ⟨rfl, rfl⟩ := q
                cases e
                exact ⟨_, _, h_NoArrows, h_NoWeb, He.exm_ok (c.fact 82 (f := .exm "NoArrows" "NoWeb" false) rfl)⟩
              · skip
                split at e
                · rename_i q
                  obtain ⟨rfl, rfl⟩ := q
                  cases e
                  exact ⟨_, _, h_NoArrows, h_NoArrows, He.exm_ok (c.fact 83 (f := .exm "NoArrows" "NoArrows" true) rfl)⟩
                · skip
                  cases e
    · have e : (decide (a = "NoWeb") || decide (a = "NoArrows")) = true := e
      simp only [Bool.or_eq_true, decide_eq_true_eq] at e
      rcases e with (rfl | rfl)
      · obtain ⟨q1, q2, q3, q4⟩ := He.exc_ok (c.fact 72 (f := .exc "NoWeb") rfl)
        exact ⟨_, h_NoWeb, q1, q2, q3, q4⟩
      · obtain ⟨q1, q2, q3, q4⟩ := He.exc_ok (c.fact 73 (f := .exc "NoArrows") rfl)
        exact ⟨_, h_NoArrows, q1, q2, q3, q4⟩
    · have e : (if x = "FORWARD" then some (">" : Str) else if x = "BACK" then some ("<" : Str) else if x = "DIGITS" then some ("0123456789" : Str) else none) = some n := e
      split at e
      · rename_i q
        subst q
        cases e
        exact He.str_ok X G (c.fact 75 (f := .str "FORWARD" ">") rfl)
      · skip
        split at e
        · rename_i q
          subst q
          cases e
          exact He.str_ok X G (c.fact 76 (f := .str "BACK" "<") rfl)
        · skip
          split at e
          · rename_i q
            subst q
            cases e
            exact He.str_ok X G (c.fact 77 (f := .str "DIGITS" "0123456789") rfl)
          · skip
            cases e
    · have e : (if a = "BadText" then some ("place" : Str) else none) = some g := e
      split at e
      · rename_i q
        subst q
        cases e
        have m := He.meth_ok (c.fact 84 (f := .meth "BadText" "__init__") rfl)
        obtain ⟨m1, m2, m3⟩ := m
        have no := He.noat_ok (c.fact 85 (f := .noat "BadText" "place") rfl)
        obtain ⟨fdi, Gi⟩ := c.def_ 50 (d := Hd.di_BadText) rfl
        have Fi : FunD K "__init__" "BadText.__init__" (defArgs Hd.si_BadText) (defBody Hd.si_BadText) (defScope Hd.si_BadText) [] [] (He.fAd K ("BadText", some "__init__")) fdi := Gi
        have ce2 : (PL.oexB K (He.ga K "BadText") && xfB K (He.ga K "BadText")) = true := ce
        rw [Bool.and_eq_true] at ce2
        have Oe := oexB_ok ce2.1
        exact ⟨own1_ok h_BadText Oe (xfB_ok ce2.2) m1 (beq_iff_eq.mp m2) no (init_ok Fi (by kernel_rfl) sci_BadText Oe no (.inl (by kernel_rfl)) (.inl (by kernel_rfl)) (by decide) (by decide)) (Fi.bindsN (ps := ["self", "place"]) fun _ _ _ _ _ _ us hl => match us, hl with | [_, _], _ => rfl), by decide⟩
      · skip
        cases e
  obtain ⟨fd0, G0⟩ := c.def_ 0 (d := Hd.d_is_integer) rfl
  have F0 : FunD K "is_integer" "is_integer" (defArgs Hd.s_is_integer) (defBody Hd.s_is_integer) (defScope Hd.s_is_integer) [] [] (He.fAd K ("is_integer", none)) fd0 := G0
  have T1 : Tab P w K mg base Md1 3 := T0.add (def_ok F0 sc_is_integer T0 hx rfl ck_is_integer (mean1 (m_is_integer))) (F0.bindsN (ps := ["thing"]) fun _ _ _ _ _ _ us hl => match us, hl with | [_], _ => rfl) (He.glo_ok X G (c.fact 0 (f := .glo "is_integer") rfl)) F0.kp
  obtain ⟨fd1, G1⟩ := c.def_ 1 (d := Hd.d_is_between) rfl
  have F1 : FunD K "is_between" "is_between" (defArgs Hd.s_is_between) (defBody Hd.s_is_between) (defScope Hd.s_is_between) [] [] (He.fAd K ("is_between", none)) fd1 := G1
  have T2 : Tab P w K mg base Md2 4 := T1.add (def_ok F1 sc_is_between T1 hx rfl ck_is_between (mean3 (m_is_between (by kernel_rfl)))) (F1.bindsN (ps := ["thing", "least", "greatest"]) fun _ _ _ _ _ _ us hl => match us, hl with | [_, _, _], _ => rfl) (He.glo_ok X G (c.fact 1 (f := .glo "is_between") rfl)) F1.kp
  obtain ⟨fd2, G2⟩ := c.def_ 2 (d := Hd.d_is_tie) rfl
  have F2 : FunD K "is_tie" "is_tie" (defArgs Hd.s_is_tie) (defBody Hd.s_is_tie) (defScope Hd.s_is_tie) [] [] (He.fAd K ("is_tie", none)) fd2 := G2
  have T3 : Tab P w K mg base Md3 5 := T2.add (def_ok F2 sc_is_tie T2 hx rfl ck_is_tie (mean2 (m_is_tie (by kernel_rfl)))) (F2.bindsN (ps := ["thing", "many"]) fun _ _ _ _ _ _ us hl => match us, hl with | [_, _], _ => rfl) (He.glo_ok X G (c.fact 2 (f := .glo "is_tie") rfl)) F2.kp
  obtain ⟨fd3, G3⟩ := c.def_ 3 (d := Hd.d_are_ties) rfl
  have F3 : FunD K "are_ties" "are_ties" (defArgs Hd.s_are_ties) (defBody Hd.s_are_ties) (defScope Hd.s_are_ties) [] [] (He.fAd K ("are_ties", none)) fd3 := G3
  have T4 : Tab P w K mg base Md4 6 := T3.add (def_ok F3 sc_are_ties T3 hx rfl ck_are_ties (mean2 (m_are_ties (by kernel_rfl)))) (F3.bindsN (ps := ["thing", "many"]) fun _ _ _ _ _ _ us hl => match us, hl with | [_, _], _ => rfl) (He.glo_ok X G (c.fact 3 (f := .glo "are_ties") rfl)) F3.kp
  obtain ⟨fd4, G4⟩ := c.def_ 4 (d := Hd.d_is_web) rfl
  have F4 : FunD K "is_web" "is_web" (defArgs Hd.s_is_web) (defBody Hd.s_is_web) (defScope Hd.s_is_web) [] [] (He.fAd K ("is_web", none)) fd4 := G4
  have T5 : Tab P w K mg base Md5 7 := T4.add (def_ok F4 sc_is_web T4 hx rfl ck_is_web (mean1 (m_is_web (by kernel_rfl) (by kernel_rfl) (by kernel_rfl)))) (F4.bindsN (ps := ["thing"]) fun _ _ _ _ _ _ us hl => match us, hl with | [_], _ => rfl) (He.glo_ok X G (c.fact 4 (f := .glo "is_web") rfl)) F4.kp
  obtain ⟨fd5, G5⟩ := c.def_ 5 (d := Hd.d_need_web) rfl
  have F5 : FunD K "need_web" "need_web" (defArgs Hd.s_need_web) (defBody Hd.s_need_web) (defScope Hd.s_need_web) [] [] (He.fAd K ("need_web", none)) fd5 := G5
  have T6 : Tab P w K mg base Md6 8 := T5.add (def_ok F5 sc_need_web T5 hx rfl ck_need_web (mean1 (m_need_web (by kernel_rfl) (by kernel_rfl)))) (F5.bindsN (ps := ["thing"]) fun _ _ _ _ _ _ us hl => match us, hl with | [_], _ => rfl) (He.glo_ok X G (c.fact 5 (f := .glo "need_web") rfl)) F5.kp
  obtain ⟨fd6, G6⟩ := c.def_ 6 (d := Hd.d_are_letters) rfl
  have F6 : FunD K "are_letters" "are_letters" (defArgs Hd.s_are_letters) (defBody Hd.s_are_letters) (defScope Hd.s_are_letters) [] [] (He.fAd K ("are_letters", none)) fd6 := G6
  have T7 : Tab P w K mg base Md7 9 := T6.add (def_ok F6 sc_are_letters T6 hx rfl ck_are_letters (mean2 (m_are_letters (by kernel_rfl) (by kernel_rfl)))) (F6.bindsN (ps := ["web", "thing"]) fun _ _ _ _ _ _ us hl => match us, hl with | [_, _], _ => rfl) (He.glo_ok X G (c.fact 6 (f := .glo "are_letters") rfl)) F6.kp
  obtain ⟨fd7, G7⟩ := c.def_ 7 (d := Hd.d_behind_of) rfl
  have F7 : FunD K "behind_of" "behind_of" (defArgs Hd.s_behind_of) (defBody Hd.s_behind_of) (defScope Hd.s_behind_of) [] [] (He.fAd K ("behind_of", none)) fd7 := G7
  have T8 : Tab P w K mg base Md8 10 := T7.add (def_ok F7 sc_behind_of T7 hx rfl ck_behind_of (mean2 (m_behind_of (by kernel_rfl)))) (F7.bindsN (ps := ["web", "letters"]) fun _ _ _ _ _ _ us hl => match us, hl with | [_, _], _ => rfl) (He.glo_ok X G (c.fact 7 (f := .glo "behind_of") rfl)) F7.kp
  obtain ⟨fd8, G8⟩ := c.def_ 8 (d := Hd.d_are_arrows_of) rfl
  have F8 : FunD K "are_arrows_of" "are_arrows_of" (defArgs Hd.s_are_arrows_of) (defBody Hd.s_are_arrows_of) (defScope Hd.s_are_arrows_of) [] [] (He.fAd K ("are_arrows_of", none)) fd8 := G8
  have T9 : Tab P w K mg base Md9 11 := T8.add (def_ok F8 sc_are_arrows_of T8 hx rfl ck_are_arrows_of (mean2 (m_are_arrows_of (by kernel_rfl) (by kernel_rfl)))) (F8.bindsN (ps := ["web", "thing"]) fun _ _ _ _ _ _ us hl => match us, hl with | [_, _], _ => rfl) (He.glo_ok X G (c.fact 8 (f := .glo "are_arrows_of") rfl)) F8.kp
  obtain ⟨fd9, G9⟩ := c.def_ 9 (d := Hd.d_need_arrows) rfl
  have F9 : FunD K "need_arrows" "need_arrows" (defArgs Hd.s_need_arrows) (defBody Hd.s_need_arrows) (defScope Hd.s_need_arrows) [] [] (He.fAd K ("need_arrows", none)) fd9 := G9
  have T10 : Tab P w K mg base Md10 12 := T9.add (def_ok F9 sc_need_arrows T9 hx rfl ck_need_arrows (mean2 (m_need_arrows (by kernel_rfl) (by kernel_rfl) (by kernel_rfl)))) (F9.bindsN (ps := ["web", "thing"]) fun _ _ _ _ _ _ us hl => match us, hl with | [_, _], _ => rfl) (He.glo_ok X G (c.fact 9 (f := .glo "need_arrows") rfl)) F9.kp
  obtain ⟨fd10, G10⟩ := c.def_ 10 (d := Hd.d_lined) rfl
  have F10 : FunD K "lined" "lined" (defArgs Hd.s_lined) (defBody Hd.s_lined) (defScope Hd.s_lined) [] [] (He.fAd K ("lined", none)) fd10 := G10
  have T11 : Tab P w K mg base Md11 13 := T10.add (def_ok F10 sc_lined T10 hx rfl ck_lined (mean1 (m_lined))) (F10.bindsN (ps := ["rows"]) fun _ _ _ _ _ _ us hl => match us, hl with | [_], _ => rfl) (He.glo_ok X G (c.fact 10 (f := .glo "lined") rfl)) F10.kp
  obtain ⟨fd11, G11⟩ := c.def_ 11 (d := Hd.d_web_text) rfl
  have F11 : FunD K "web_text" "web_text" (defArgs Hd.s_web_text) (defBody Hd.s_web_text) (defScope Hd.s_web_text) [] [] (He.fAd K ("web_text", none)) fd11 := G11
  have T12 : Tab P w K mg base Md12 14 := T11.add (def_ok F11 sc_web_text T11 hx rfl ck_web_text (mean1 (m_web_text (by kernel_rfl) (by kernel_rfl)))) (F11.bindsN (ps := ["web"]) fun _ _ _ _ _ _ us hl => match us, hl with | [_], _ => rfl) (He.glo_ok X G (c.fact 11 (f := .glo "web_text") rfl)) F11.kp
  obtain ⟨fd12, G12⟩ := c.def_ 12 (d := Hd.d_arrows_text) rfl
  have F12 : FunD K "arrows_text" "arrows_text" (defArgs Hd.s_arrows_text) (defBody Hd.s_arrows_text) (defScope Hd.s_arrows_text) [] [] (He.fAd K ("arrows_text", none)) fd12 := G12
  have T13 : Tab P w K mg base Md13 15 := T12.add (def_ok F12 sc_arrows_text T12 hx rfl ck_arrows_text (mean2 (m_arrows_text (by kernel_rfl) (by kernel_rfl) (by kernel_rfl)))) (F12.bindsN (ps := ["web", "arrows"]) fun _ _ _ _ _ _ us hl => match us, hl with | [_, _], _ => rfl) (He.glo_ok X G (c.fact 12 (f := .glo "arrows_text") rfl)) F12.kp
  obtain ⟨fd13, G13⟩ := c.def_ 13 (d := Hd.d_number_of) rfl
  have F13 : FunD K "number_of" "number_of" (defArgs Hd.s_number_of) (defBody Hd.s_number_of) (defScope Hd.s_number_of) [] [] (He.fAd K ("number_of", none)) fd13 := G13
  have T14 : Tab P w K mg base Md14 16 := T13.add (def_ok F13 sc_number_of T13 hx rfl ck_number_of (mean1 (m_number_of (by kernel_rfl)))) (F13.bindsN (ps := ["word"]) fun _ _ _ _ _ _ us hl => match us, hl with | [_], _ => rfl) (He.glo_ok X G (c.fact 13 (f := .glo "number_of") rfl)) F13.kp
  obtain ⟨fd14, G14⟩ := c.def_ 14 (d := Hd.d_pair_in) rfl
  have F14 : FunD K "pair_in" "pair_in" (defArgs Hd.s_pair_in) (defBody Hd.s_pair_in) (defScope Hd.s_pair_in) [] [] (He.fAd K ("pair_in", none)) fd14 := G14
  have T15 : Tab P w K mg base Md15 17 := T14.add (def_ok F14 sc_pair_in T14 hx rfl ck_pair_in (mean3 (m_pair_in (by kernel_rfl) (by kernel_rfl)))) (F14.bindsN (ps := ["rows", "at", "head"]) fun _ _ _ _ _ _ us hl => match us, hl with | [_, _, _], _ => rfl) (He.glo_ok X G (c.fact 14 (f := .glo "pair_in") rfl)) F14.kp
  obtain ⟨fd15, G15⟩ := c.def_ 15 (d := Hd.d_pairs_read) rfl
  have F15 : FunD K "pairs_read" "pairs_read" (defArgs Hd.s_pairs_read) (defBody Hd.s_pairs_read) (defScope Hd.s_pairs_read) [] [] (He.fAd K ("pairs_read", none)) fd15 := G15
  have T16 : Tab P w K mg base Md16 18 := T15.add (def_ok F15 sc_pairs_read T15 hx rfl ck_pairs_read (mean3 (m_pairs_read (by kernel_rfl) (by kernel_rfl)))) (F15.bindsN (ps := ["text", "head", "word"]) fun _ _ _ _ _ _ us hl => match us, hl with | [_, _, _], _ => rfl) (He.glo_ok X G (c.fact 15 (f := .glo "pairs_read") rfl)) F15.kp
  obtain ⟨fd16, G16⟩ := c.def_ 16 (d := Hd.d_read_web) rfl
  have F16 : FunD K "read_web" "read_web" (defArgs Hd.s_read_web) (defBody Hd.s_read_web) (defScope Hd.s_read_web) [] [] (He.fAd K ("read_web", none)) fd16 := G16
  have T17 : Tab P w K mg base Md17 19 := T16.add (def_ok F16 sc_read_web T16 hx rfl ck_read_web (mean1 (m_read_web (by kernel_rfl) (by kernel_rfl)))) (F16.bindsN (ps := ["text"]) fun _ _ _ _ _ _ us hl => match us, hl with | [_], _ => rfl) (He.glo_ok X G (c.fact 16 (f := .glo "read_web") rfl)) F16.kp
  obtain ⟨fd17, G17⟩ := c.def_ 17 (d := Hd.d_read_arrows) rfl
  have F17 : FunD K "read_arrows" "read_arrows" (defArgs Hd.s_read_arrows) (defBody Hd.s_read_arrows) (defScope Hd.s_read_arrows) [] [] (He.fAd K ("read_arrows", none)) fd17 := G17
  have T18 : Tab P w K mg base Md18 20 := T17.add (def_ok F17 sc_read_arrows T17 hx rfl ck_read_arrows (mean1 (m_read_arrows (by kernel_rfl) (by kernel_rfl) (by kernel_rfl)))) (F17.bindsN (ps := ["text"]) fun _ _ _ _ _ _ us hl => match us, hl with | [_], _ => rfl) (He.glo_ok X G (c.fact 17 (f := .glo "read_arrows") rfl)) F17.kp
  obtain ⟨fd18, G18⟩ := c.def_ 18 (d := Hd.d__law_hand) rfl
  have F18 : FunD K "_law_hand" "_law_hand" (defArgs Hd.s__law_hand) (defBody Hd.s__law_hand) (defScope Hd.s__law_hand) [] [] (He.fAd K ("_law_hand", none)) fd18 := G18
  have T19 : Tab P w K mg base Md19 21 := T18.add (def_ok F18 sc__law_hand T18 hx rfl ck__law_hand (mean1 (m_hand))) (F18.bindsN (ps := ["script"]) fun _ _ _ _ _ _ us hl => match us, hl with | [_], _ => rfl) (He.glo_ok X G (c.fact 18 (f := .glo "_law_hand") rfl)) F18.kp
  obtain ⟨fd19, G19⟩ := c.def_ 19 (d := Hd.d__law_draw) rfl
  have F19 : FunD K "_law_draw" "_law_draw" (defArgs Hd.s__law_draw) (defBody Hd.s__law_draw) (defScope Hd.s__law_draw) [] [] (He.fAd K ("_law_draw", none)) fd19 := G19
  have T20 : Tab P w K mg base Md20 22 := T19.add (def_ok F19 sc__law_draw T19 hx rfl ck__law_draw (mean2 (m_draw))) (F19.bindsN (ps := ["hand", "many"]) fun _ _ _ _ _ _ us hl => match us, hl with | [_, _], _ => rfl) (He.glo_ok X G (c.fact 19 (f := .glo "_law_draw") rfl)) F19.kp
  obtain ⟨fd20, G20⟩ := c.def_ 20 (d := Hd.d__law_some) rfl
  have F20 : FunD K "_law_some" "_law_some" (defArgs Hd.s__law_some) (defBody Hd.s__law_some) (defScope Hd.s__law_some) [] [] (He.fAd K ("_law_some", none)) fd20 := G20
  have T21 : Tab P w K mg base Md21 23 := T20.add (def_ok F20 sc__law_some T20 hx rfl ck__law_some (mean2 (m_some (by kernel_rfl)))) (F20.bindsN (ps := ["hand", "things"]) fun _ _ _ _ _ _ us hl => match us, hl with | [_, _], _ => rfl) (He.glo_ok X G (c.fact 20 (f := .glo "_law_some") rfl)) F20.kp
  obtain ⟨fd21, G21⟩ := c.def_ 21 (d := Hd.d__law_kept) rfl
  have F21 : FunD K "_law_kept" "_law_kept" (defArgs Hd.s__law_kept) (defBody Hd.s__law_kept) (defScope Hd.s__law_kept) [] [] (He.fAd K ("_law_kept", none)) fd21 := G21
  have T22 : Tab P w K mg base Md22 24 := T21.add (def_ok F21 sc__law_kept T21 hx rfl ck__law_kept (mean2 (m_kept (n := 0) (fun _ h => by cases h)))) (F21.bindsN (ps := ["told", "due"]) fun _ _ _ _ _ _ us hl => match us, hl with | [_, _], _ => rfl) (He.glo_ok X G (c.fact 21 (f := .glo "_law_kept") rfl)) F21.kp
  obtain ⟨fd22, G22⟩ := c.def_ 21 (d := Hd.d__law_kept) rfl
  have F22 : FunD K "_law_kept" "_law_kept" (defArgs Hd.s__law_kept) (defBody Hd.s__law_kept) (defScope Hd.s__law_kept) [] [] (He.fAd K ("_law_kept", none)) fd22 := G22
  have T23 : Tab P w K mg base Md23 25 := T22.add (def_ok F22 sc__law_kept T22 hx rfl ck__law_kept (mean2 (m_kept (n := 1) (fun m h => by cases h; kernel_rfl)))) (F22.bindsN (ps := ["told", "due"]) fun _ _ _ _ _ _ us hl => match us, hl with | [_, _], _ => rfl) (He.glo_ok X G (c.fact 21 (f := .glo "_law_kept") rfl)) F22.kp
  obtain ⟨fd23, G23⟩ := c.def_ 21 (d := Hd.d__law_kept) rfl
  have F23 : FunD K "_law_kept" "_law_kept" (defArgs Hd.s__law_kept) (defBody Hd.s__law_kept) (defScope Hd.s__law_kept) [] [] (He.fAd K ("_law_kept", none)) fd23 := G23
  have T24 : Tab P w K mg base Md24 26 := T23.add (def_ok F23 sc__law_kept T23 hx rfl ck__law_kept (mean2 (m_kept (n := 2) (fun m h => by cases h; kernel_rfl)))) (F23.bindsN (ps := ["told", "due"]) fun _ _ _ _ _ _ us hl => match us, hl with | [_, _], _ => rfl) (He.glo_ok X G (c.fact 21 (f := .glo "_law_kept") rfl)) F23.kp
  obtain ⟨fd24, G24⟩ := c.def_ 21 (d := Hd.d__law_kept) rfl
  have F24 : FunD K "_law_kept" "_law_kept" (defArgs Hd.s__law_kept) (defBody Hd.s__law_kept) (defScope Hd.s__law_kept) [] [] (He.fAd K ("_law_kept", none)) fd24 := G24
  have T25 : Tab P w K mg base Md25 27 := T24.add (def_ok F24 sc__law_kept T24 hx rfl ck__law_kept (mean2 (m_kept (n := 3) (fun m h => by cases h; kernel_rfl)))) (F24.bindsN (ps := ["told", "due"]) fun _ _ _ _ _ _ us hl => match us, hl with | [_, _], _ => rfl) (He.glo_ok X G (c.fact 21 (f := .glo "_law_kept") rfl)) F24.kp
  obtain ⟨fd25, G25⟩ := c.def_ 21 (d := Hd.d__law_kept) rfl
  have F25 : FunD K "_law_kept" "_law_kept" (defArgs Hd.s__law_kept) (defBody Hd.s__law_kept) (defScope Hd.s__law_kept) [] [] (He.fAd K ("_law_kept", none)) fd25 := G25
  have T26 : Tab P w K mg base Md26 28 := T25.add (def_ok F25 sc__law_kept T25 hx rfl ck__law_kept (mean2 (m_kept (n := 4) (fun m h => by cases h; kernel_rfl)))) (F25.bindsN (ps := ["told", "due"]) fun _ _ _ _ _ _ us hl => match us, hl with | [_, _], _ => rfl) (He.glo_ok X G (c.fact 21 (f := .glo "_law_kept") rfl)) F25.kp
  obtain ⟨fd26, G26⟩ := c.def_ 21 (d := Hd.d__law_kept) rfl
  have F26 : FunD K "_law_kept" "_law_kept" (defArgs Hd.s__law_kept) (defBody Hd.s__law_kept) (defScope Hd.s__law_kept) [] [] (He.fAd K ("_law_kept", none)) fd26 := G26
  have T27 : Tab P w K mg base Md27 29 := T26.add (def_ok F26 sc__law_kept T26 hx rfl ck__law_kept (mean2 (m_kept (n := 5) (fun m h => by cases h; kernel_rfl)))) (F26.bindsN (ps := ["told", "due"]) fun _ _ _ _ _ _ us hl => match us, hl with | [_, _], _ => rfl) (He.glo_ok X G (c.fact 21 (f := .glo "_law_kept") rfl)) F26.kp
  obtain ⟨fd27, G27⟩ := c.def_ 22 (d := Hd.d__law_mixed) rfl
  have F27 : FunD K "_law_mixed" "_law_mixed" (defArgs Hd.s__law_mixed) (defBody Hd.s__law_mixed) (defScope Hd.s__law_mixed) [] [] (He.fAd K ("_law_mixed", none)) fd27 := G27
  have T28 : Tab P w K mg base Md28 30 := T27.add (def_ok F27 sc__law_mixed T27 hx rfl ck__law_mixed (mean2 (m_mixed (by kernel_rfl)))) (F27.bindsN (ps := ["hand", "things"]) fun _ _ _ _ _ _ us hl => match us, hl with | [_, _], _ => rfl) (He.glo_ok X G (c.fact 22 (f := .glo "_law_mixed") rfl)) F27.kp
  obtain ⟨fd28, G28⟩ := c.def_ 23 (d := Hd.d__law_web) rfl
  have F28 : FunD K "_law_web" "_law_web" (defArgs Hd.s__law_web) (defBody Hd.s__law_web) (defScope Hd.s__law_web) [] [] (He.fAd K ("_law_web", none)) fd28 := G28
  have T29 : Tab P w K mg base Md29 31 := T28.add (def_ok F28 sc__law_web T28 hx rfl ck__law_web (mean1 (m_web))) (F28.bindsN (ps := ["table"]) fun _ _ _ _ _ _ us hl => match us, hl with | [_], _ => rfl) (He.glo_ok X G (c.fact 23 (f := .glo "_law_web") rfl)) F28.kp
  obtain ⟨fd29, G29⟩ := c.def_ 24 (d := Hd.d__law_table) rfl
  have F29 : FunD K "_law_table" "_law_table" (defArgs Hd.s__law_table) (defBody Hd.s__law_table) (defScope Hd.s__law_table) [] [] (He.fAd K ("_law_table", none)) fd29 := G29
  have T30 : Tab P w K mg base Md30 32 := T29.add (def_ok F29 sc__law_table T29 hx rfl ck__law_table (mean1 (m_table))) (F29.bindsN (ps := ["web"]) fun _ _ _ _ _ _ us hl => match us, hl with | [_], _ => rfl) (He.glo_ok X G (c.fact 24 (f := .glo "_law_table") rfl)) F29.kp
  obtain ⟨fd30, G30⟩ := c.def_ 25 (d := Hd.d__law_random) rfl
  have F30 : FunD K "_law_random" "_law_random" (defArgs Hd.s__law_random) (defBody Hd.s__law_random) (defScope Hd.s__law_random) [] [] (He.fAd K ("_law_random", none)) fd30 := G30
  have T31 : Tab P w K mg base Md31 33 := T30.add (def_ok F30 sc__law_random T30 hx rfl ck__law_random (mean2 (m_random (by kernel_rfl)))) (F30.bindsN (ps := ["hand", "many"]) fun _ _ _ _ _ _ us hl => match us, hl with | [_, _], _ => rfl) (He.glo_ok X G (c.fact 25 (f := .glo "_law_random") rfl)) F30.kp
  obtain ⟨fd31, G31⟩ := c.def_ 26 (d := Hd.d__law_put_in) rfl
  have F31 : FunD K "_law_put_in" "_law_put_in" (defArgs Hd.s__law_put_in) (defBody Hd.s__law_put_in) (defScope Hd.s__law_put_in) [] [] (He.fAd K ("_law_put_in", none)) fd31 := G31
  have T32 : Tab P w K mg base Md32 34 := T31.add (def_ok F31 sc__law_put_in T31 hx rfl ck__law_put_in (mean3 (m_put_in))) (F31.bindsN (ps := ["table", "corner", "inner"]) fun _ _ _ _ _ _ us hl => match us, hl with | [_, _, _], _ => rfl) (He.glo_ok X G (c.fact 26 (f := .glo "_law_put_in") rfl)) F31.kp
  obtain ⟨fd32, G32⟩ := c.def_ 27 (d := Hd.d__law_named) rfl
  have F32 : FunD K "_law_named" "_law_named" (defArgs Hd.s__law_named) (defBody Hd.s__law_named) (defScope Hd.s__law_named) [] [] (He.fAd K ("_law_named", none)) fd32 := G32
  have T33 : Tab P w K mg base Md33 35 := T32.add (def_ok F32 sc__law_named T32 hx rfl ck__law_named (mean2 (m_named (by kernel_rfl)))) (F32.bindsN (ps := ["hand", "table"]) fun _ _ _ _ _ _ us hl => match us, hl with | [_, _], _ => rfl) (He.glo_ok X G (c.fact 27 (f := .glo "_law_named") rfl)) F32.kp
  obtain ⟨fd33, G33⟩ := c.def_ 28 (d := Hd.d__law_known) rfl
  have F33 : FunD K "_law_known" "_law_known" (defArgs Hd.s__law_known) (defBody Hd.s__law_known) (defScope Hd.s__law_known) [] [] (He.fAd K ("_law_known", none)) fd33 := G33
  have T34 : Tab P w K mg base Md34 36 := T33.add (def_ok F33 sc__law_known T33 hx rfl ck__law_known (mean1 (m_known (by kernel_rfl) (by kernel_rfl)))) (F33.bindsN (ps := ["hand"]) fun _ _ _ _ _ _ us hl => match us, hl with | [_], _ => rfl) (He.glo_ok X G (c.fact 28 (f := .glo "_law_known") rfl)) F33.kp
  obtain ⟨fd34, G34⟩ := c.def_ 29 (d := Hd.d__law_nested) rfl
  have F34 : FunD K "_law_nested" "_law_nested" (defArgs Hd.s__law_nested) (defBody Hd.s__law_nested) (defScope Hd.s__law_nested) [] [] (He.fAd K ("_law_nested", none)) fd34 := G34
  have T35 : Tab P w K mg base Md35 37 := T34.add (def_ok F34 sc__law_nested T34 hx rfl ck__law_nested (mean2 (m_nested (by kernel_rfl) (by kernel_rfl) (by kernel_rfl) (by kernel_rfl) (by kernel_rfl)))) (F34.bindsN (ps := ["hand", "most"]) fun _ _ _ _ _ _ us hl => match us, hl with | [_, _], _ => rfl) (He.glo_ok X G (c.fact 29 (f := .glo "_law_nested") rfl)) F34.kp
  obtain ⟨fd35, G35⟩ := c.def_ 31 (d := Hd.d__law_closed) rfl
  have F35 : FunD K "_law_closed" "_law_closed" (defArgs Hd.s__law_closed) (defBody Hd.s__law_closed) (defScope Hd.s__law_closed) [] [] (He.fAd K ("_law_closed", none)) fd35 := G35
  have T36 : Tab P w K mg base Md36 38 := T35.add (def_ok F35 sc__law_closed T35 hx rfl ck__law_closed (mean1 (m_closed))) (F35.bindsN (ps := ["table"]) fun _ _ _ _ _ _ us hl => match us, hl with | [_], _ => rfl) (He.glo_ok X G (c.fact 31 (f := .glo "_law_closed") rfl)) F35.kp
  obtain ⟨fd36, G36⟩ := c.def_ 33 (d := Hd.d__law_put_behind) rfl
  have F36 : FunD K "_law_put_behind" "_law_put_behind" (defArgs Hd.s__law_put_behind) (defBody Hd.s__law_put_behind) (defScope Hd.s__law_put_behind) [] [] (He.fAd K ("_law_put_behind", none)) fd36 := G36
  have T37 : Tab P w K mg base Md37 39 := T36.add (def_ok F36 sc__law_put_behind T36 hx rfl ck__law_put_behind (mean2 (m_behind (by kernel_rfl) (by kernel_rfl)))) (F36.bindsN (ps := ["hand", "many"]) fun _ _ _ _ _ _ us hl => match us, hl with | [_, _], _ => rfl) (He.glo_ok X G (c.fact 33 (f := .glo "_law_put_behind") rfl)) F36.kp
  obtain ⟨fd37, G37⟩ := c.def_ 32 (d := Hd.d__law_order_table) rfl
  have F37 : FunD K "_law_order_table" "_law_order_table" (defArgs Hd.s__law_order_table) (defBody Hd.s__law_order_table) (defScope Hd.s__law_order_table) [] [] (He.fAd K ("_law_order_table", none)) fd37 := G37
  have T38 : Tab P w K mg base Md38 40 := T37.add (def_ok F37 sc__law_order_table T37 hx rfl ck__law_order_table (mean2 (m_otable (by kernel_rfl) (by kernel_rfl) (by kernel_rfl) (by kernel_rfl)))) (F37.bindsN (ps := ["hand", "most"]) fun _ _ _ _ _ _ us hl => match us, hl with | [_, _], _ => rfl) (He.glo_ok X G (c.fact 32 (f := .glo "_law_order_table") rfl)) F37.kp
  obtain ⟨fd38, G38⟩ := c.def_ 34 (d := Hd.d__law_letters) rfl
  have F38 : FunD K "_law_letters" "_law_letters" (defArgs Hd.s__law_letters) (defBody Hd.s__law_letters) (defScope Hd.s__law_letters) [] [] (He.fAd K ("_law_letters", none)) fd38 := G38
  have T39 : Tab P w K mg base Md39 41 := T38.add (def_ok F38 sc__law_letters T38 hx rfl ck__law_letters (mean2 (m_letters))) (F38.bindsN (ps := ["web", "table"]) fun _ _ _ _ _ _ us hl => match us, hl with | [_, _], _ => rfl) (He.glo_ok X G (c.fact 34 (f := .glo "_law_letters") rfl)) F38.kp
  obtain ⟨fd39, G39⟩ := c.def_ 35 (d := Hd.d__law_order) rfl
  have F39 : FunD K "_law_order" "_law_order" (defArgs Hd.s__law_order) (defBody Hd.s__law_order) (defScope Hd.s__law_order) [] [] (He.fAd K ("_law_order", none)) fd39 := G39
  have T40 : Tab P w K mg base Md40 42 := T39.add (def_ok F39 sc__law_order T39 hx rfl ck__law_order (mean2 (m_order (by kernel_rfl) (by kernel_rfl) (by kernel_rfl)))) (F39.bindsN (ps := ["hand", "most"]) fun _ _ _ _ _ _ us hl => match us, hl with | [_, _], _ => rfl) (He.glo_ok X G (c.fact 35 (f := .glo "_law_order") rfl)) F39.kp
  obtain ⟨fd40, G40⟩ := c.def_ 30 (d := Hd.d__law_any_web) rfl
  have F40 : FunD K "_law_any_web" "_law_any_web" (defArgs Hd.s__law_any_web) (defBody Hd.s__law_any_web) (defScope Hd.s__law_any_web) [] [] (He.fAd K ("_law_any_web", none)) fd40 := G40
  have T41 : Tab P w K mg base Md41 43 := T40.add (def_ok F40 sc__law_any_web T40 hx rfl ck__law_any_web (mean2 (m_any (by kernel_rfl) (by kernel_rfl) (by kernel_rfl) (by kernel_rfl) (by kernel_rfl)))) (F40.bindsN (ps := ["hand", "most"]) fun _ _ _ _ _ _ us hl => match us, hl with | [_, _], _ => rfl) (He.glo_ok X G (c.fact 30 (f := .glo "_law_any_web") rfl)) F40.kp
  obtain ⟨fd41, G41⟩ := c.def_ 36 (d := Hd.d__law_arrow_table) rfl
  have F41 : FunD K "_law_arrow_table" "_law_arrow_table" (defArgs Hd.s__law_arrow_table) (defBody Hd.s__law_arrow_table) (defScope Hd.s__law_arrow_table) [] [] (He.fAd K ("_law_arrow_table", none)) fd41 := G41
  have T42 : Tab P w K mg base Md42 44 := T41.add (def_ok F41 sc__law_arrow_table T41 hx rfl ck__law_arrow_table (mean2 (m_arrow_table))) (F41.bindsN (ps := ["web", "letters"]) fun _ _ _ _ _ _ us hl => match us, hl with | [_, _], _ => rfl) (He.glo_ok X G (c.fact 36 (f := .glo "_law_arrow_table") rfl)) F41.kp
  obtain ⟨fd42, G42⟩ := c.def_ 37 (d := Hd.d__law_goes_on) rfl
  have F42 : FunD K "_law_goes_on" "_law_goes_on" (defArgs Hd.s__law_goes_on) (defBody Hd.s__law_goes_on) (defScope Hd.s__law_goes_on) [] [] (He.fAd K ("_law_goes_on", none)) fd42 := G42
  have T43 : Tab P w K mg base Md43 45 := T42.add (def_ok F42 sc__law_goes_on T42 hx rfl ck__law_goes_on (mean1 (m_goes_on))) (F42.bindsN (ps := ["table"]) fun _ _ _ _ _ _ us hl => match us, hl with | [_], _ => rfl) (He.glo_ok X G (c.fact 37 (f := .glo "_law_goes_on") rfl)) F42.kp
  obtain ⟨fd43, G43⟩ := c.def_ 38 (d := Hd.d__law_are_arrows) rfl
  have F43 : FunD K "_law_are_arrows" "_law_are_arrows" (defArgs Hd.s__law_are_arrows) (defBody Hd.s__law_are_arrows) (defScope Hd.s__law_are_arrows) [] [] (He.fAd K ("_law_are_arrows", none)) fd43 := G43
  have T44 : Tab P w K mg base Md44 46 := T43.add (def_ok F43 sc__law_are_arrows T43 hx rfl ck__law_are_arrows (mean2 (m_law_arrows (by kernel_rfl) (by kernel_rfl)))) (F43.bindsN (ps := ["web", "thing"]) fun _ _ _ _ _ _ us hl => match us, hl with | [_, _], _ => rfl) (He.glo_ok X G (c.fact 38 (f := .glo "_law_are_arrows") rfl)) F43.kp
  obtain ⟨fd44, G44⟩ := c.def_ 39 (d := Hd.d__law_no_web) rfl
  have F44 : FunD K "_law_no_web" "_law_no_web" (defArgs Hd.s__law_no_web) (defBody Hd.s__law_no_web) (defScope Hd.s__law_no_web) [] [] (He.fAd K ("_law_no_web", none)) fd44 := G44
  have T45 : Tab P w K mg base Md45 47 := T44.add (def_ok F44 sc__law_no_web T44 hx rfl ck__law_no_web (mean2 (m_no_web (by kernel_rfl)))) (F44.bindsN (ps := ["hand", "web"]) fun _ _ _ _ _ _ us hl => match us, hl with | [_, _], _ => rfl) (He.glo_ok X G (c.fact 39 (f := .glo "_law_no_web") rfl)) F44.kp
  obtain ⟨fd45, G45⟩ := c.def_ 40 (d := Hd.d__law_no_arrows) rfl
  have F45 : FunD K "_law_no_arrows" "_law_no_arrows" (defArgs Hd.s__law_no_arrows) (defBody Hd.s__law_no_arrows) (defScope Hd.s__law_no_arrows) [] [] (He.fAd K ("_law_no_arrows", none)) fd45 := G45
  have T46 : Tab P w K mg base Md46 48 := T45.add (def_ok F45 sc__law_no_arrows T45 hx rfl ck__law_no_arrows (mean3 (m_no_arrows (by kernel_rfl) (by kernel_rfl)))) (F45.bindsN (ps := ["hand", "web", "letters"]) fun _ _ _ _ _ _ us hl => match us, hl with | [_, _, _], _ => rfl) (He.glo_ok X G (c.fact 40 (f := .glo "_law_no_arrows") rfl)) F45.kp
  obtain ⟨fd46, G46⟩ := c.def_ 41 (d := Hd.d__law_lined) rfl
  have F46 : FunD K "_law_lined" "_law_lined" (defArgs Hd.s__law_lined) (defBody Hd.s__law_lined) (defScope Hd.s__law_lined) [] [] (He.fAd K ("_law_lined", none)) fd46 := G46
  have T47 : Tab P w K mg base Md47 49 := T46.add (def_ok F46 sc__law_lined T46 hx rfl ck__law_lined (mean1 (m_law_lined))) (F46.bindsN (ps := ["rows"]) fun _ _ _ _ _ _ us hl => match us, hl with | [_], _ => rfl) (He.glo_ok X G (c.fact 41 (f := .glo "_law_lined") rfl)) F46.kp
  obtain ⟨fd47, G47⟩ := c.def_ 42 (d := Hd.d__law_number_of) rfl
  have F47 : FunD K "_law_number_of" "_law_number_of" (defArgs Hd.s__law_number_of) (defBody Hd.s__law_number_of) (defScope Hd.s__law_number_of) [] [] (He.fAd K ("_law_number_of", none)) fd47 := G47
  have T48 : Tab P w K mg base Md48 50 := T47.add (def_ok F47 sc__law_number_of T47 hx rfl ck__law_number_of (mean1 (m_law_number_of))) (F47.bindsN (ps := ["word"]) fun _ _ _ _ _ _ us hl => match us, hl with | [_], _ => rfl) (He.glo_ok X G (c.fact 42 (f := .glo "_law_number_of") rfl)) F47.kp
  obtain ⟨fd48, G48⟩ := c.def_ 43 (d := Hd.d__law_pair) rfl
  have F48 : FunD K "_law_pair" "_law_pair" (defArgs Hd.s__law_pair) (defBody Hd.s__law_pair) (defScope Hd.s__law_pair) [] [] (He.fAd K ("_law_pair", none)) fd48 := G48
  have T49 : Tab P w K mg base Md49 51 := T48.add (def_ok F48 sc__law_pair T48 hx rfl ck__law_pair (mean2 (m_law_pair (by kernel_rfl)))) (F48.bindsN (ps := ["line", "head"]) fun _ _ _ _ _ _ us hl => match us, hl with | [_, _], _ => rfl) (He.glo_ok X G (c.fact 43 (f := .glo "_law_pair") rfl)) F48.kp
  obtain ⟨fd49, G49⟩ := c.def_ 44 (d := Hd.d__law_read) rfl
  have F49 : FunD K "_law_read" "_law_read" (defArgs Hd.s__law_read) (defBody Hd.s__law_read) (defScope Hd.s__law_read) [] [] (He.fAd K ("_law_read", none)) fd49 := G49
  have T50 : Tab P w K mg base Md50 52 := T49.add (def_ok F49 sc__law_read T49 hx rfl ck__law_read (mean3 (m_read (by kernel_rfl)))) (F49.bindsN (ps := ["text", "head", "word"]) fun _ _ _ _ _ _ us hl => match us, hl with | [_, _, _], _ => rfl) (He.glo_ok X G (c.fact 44 (f := .glo "_law_read") rfl)) F49.kp
  obtain ⟨fd50, G50⟩ := c.def_ 45 (d := Hd.d__law_is_web) rfl
  have F50 : FunD K "_law_is_web" "_law_is_web" (defArgs Hd.s__law_is_web) (defBody Hd.s__law_is_web) (defScope Hd.s__law_is_web) [] [] (He.fAd K ("_law_is_web", none)) fd50 := G50
  have T51 : Tab P w K mg base Md51 53 := T50.add (def_ok F50 sc__law_is_web T50 hx rfl ck__law_is_web (mean1 (m_law_is_web))) (F50.bindsN (ps := ["thing"]) fun _ _ _ _ _ _ us hl => match us, hl with | [_], _ => rfl) (He.glo_ok X G (c.fact 45 (f := .glo "_law_is_web") rfl)) F50.kp
  obtain ⟨fd51, G51⟩ := c.def_ 46 (d := Hd.d__law_due) rfl
  have F51 : FunD K "_law_due" "_law_due" (defArgs Hd.s__law_due) (defBody Hd.s__law_due) (defScope Hd.s__law_due) [] [] (He.fAd K ("_law_due", none)) fd51 := G51
  have T52 : Tab P w K mg base Md52 54 := T51.add (def_ok F51 sc__law_due T51 hx rfl ck__law_due (mean2 (m_due (by kernel_rfl) (by kernel_rfl) (by kernel_rfl)))) (F51.bindsN (ps := ["kind", "text"]) fun _ _ _ _ _ _ us hl => match us, hl with | [_, _], _ => rfl) (He.glo_ok X G (c.fact 46 (f := .glo "_law_due") rfl)) F51.kp
  obtain ⟨fd52, G52⟩ := c.def_ 47 (d := Hd.d__law_outcome) rfl
  have F52 : FunD K "_law_outcome" "_law_outcome" (defArgs Hd.s__law_outcome) (defBody Hd.s__law_outcome) (defScope Hd.s__law_outcome) [] [] (He.fAd K ("_law_outcome", none)) fd52 := G52
  have T53 : Tab P w K mg base Md53 55 := T52.add (def_ok F52 sc__law_outcome T52 hx rfl ck__law_outcome (mean2 (m_outcome (by kernel_rfl) (by kernel_rfl) ⟨by kernel_rfl, by kernel_rfl, by kernel_rfl, by kernel_rfl, by kernel_rfl, by kernel_rfl, by kernel_rfl⟩))) (F52.bindsN (ps := ["kind", "text"]) fun _ _ _ _ _ _ us hl => match us, hl with | [_, _], _ => rfl) (He.glo_ok X G (c.fact 47 (f := .glo "_law_outcome") rfl)) F52.kp
  obtain ⟨fd53, G53⟩ := c.def_ 48 (d := Hd.d__law_bent) rfl
  have F53 : FunD K "_law_bent" "_law_bent" (defArgs Hd.s__law_bent) (defBody Hd.s__law_bent) (defScope Hd.s__law_bent) [] [] (He.fAd K ("_law_bent", none)) fd53 := G53
  have T54 : Tab P w K mg base Md54 56 := T53.add (def_ok F53 sc__law_bent T53 hx rfl ck__law_bent (mean2 (m_bent (by kernel_rfl) (by kernel_rfl)))) (F53.bindsN (ps := ["hand", "text"]) fun _ _ _ _ _ _ us hl => match us, hl with | [_, _], _ => rfl) (He.glo_ok X G (c.fact 48 (f := .glo "_law_bent") rfl)) F53.kp
  have FL := def_no F sc_law T54 hx rfl ck_law (mean1 (m_law (by kernel_rfl) (by kernel_rfl) (by kernel_rfl) (by kernel_rfl) (by kernel_rfl) (by kernel_rfl) (by kernel_rfl) (by kernel_rfl) (by kernel_rfl) (by kernel_rfl) (by kernel_rfl) (by kernel_rfl) (by kernel_rfl) (by kernel_rfl) (by kernel_rfl) (by kernel_rfl) (by kernel_rfl) (by kernel_rfl)))
  exact FL.mono (by decide)
end PL
namespace Hd
open PySem PySem.Spec PyProof.Rows L2
abbrev R : PySem.W.OpenRow := PySem.W.OpenLaw.row PySem.Challenge.rw_arrowsgoon_k78_whole_texts_of_webs_and_a
abbrev hk : PySem.W.Hook := PL.hookE 4 fa fn ex
def ob (s : PySem.W.SharedT) : He.AlD × Bool := PL.obsE 4 fa fn ex (HandSHeadRun.getT s)
theorem ob_eq (s : PySem.W.SharedT) : ob s = hk.obs s.abs := PL.obsE_eq (HandSHeadRun.getT_eq s)
def nm0 : List Str := ["ArrowError", "NoWeb", "NoArrows", "BadText", "MOST_CORNERS", "is_integer", "is_between", "is_tie", "are_ties", "is_web", "need_web", "FORWARD", "BACK", "are_letters", "behind_of"]
def nm1 : List Str := ["are_arrows_of", "need_arrows", "DIGITS", "lined", "web_text", "arrows_text", "number_of", "pair_in", "pairs_read", "read_web", "read_arrows", "_law_hand", "_law_draw", "_law_some", "_law_kept"]
def nm2 : List Str := ["_law_mixed", "_law_web", "_law_table", "_law_random", "_law_put_in", "_law_named", "_law_known", "_law_nested", "_law_any_web", "_law_closed", "_law_order_table", "_law_put_behind", "_law_letters", "_law_order", "_law_arrow_table"]
def nm3 : List Str := ["_law_goes_on", "_law_are_arrows", "_law_no_web", "_law_no_arrows", "_law_lined", "_law_number_of", "_law_pair", "_law_read", "_law_is_web", "_law_due", "_law_outcome", "_law_bent"]
def names : List Str := nm0 ++ nm1 ++ nm2 ++ nm3
theorem run (w : World) : HandSHeadRun.RunEq R (PySem.W.view R.prog [62]) hk ob 6000 names w := by
  intro os
  kernel_rfl
end Hd
open PySem PySem.W PySem.Calls PyProof.Rows
theorem PySem.Challenge.cw_arrowsgoon_k78_whole_texts_of_webs_and_a_holds : PySem.Challenge.rw_arrowsgoon_k78_whole_texts_of_webs_and_a.Holds := by
  w_on; o_law
  refine HandSHeadRun.head_any (r := OpenLaw.row PySem.Challenge.rw_arrowsgoon_k78_whole_texts_of_webs_and_a) (q := view (OpenLaw.row PySem.Challenge.rw_arrowsgoon_k78_whole_texts_of_webs_and_a).prog [62]) (H := Hd.hk) (ob := Hd.ob) (M := 6000) (loose := Hd.names) (d := HandSHeadRun.topDef (OpenLaw.row PySem.Challenge.rw_arrowsgoon_k78_whole_texts_of_webs_and_a).prog 62) (kwd := []) Hd.ob_eq
    (by kernel_rfl) (fun s => by kernel_rfl) Hd.run (by kernel_rfl) (by kernel_rfl) (by kernel_rfl) (by rfl) (by first | assumption | decide +kernel) (by decide +kernel) ⟨rfl, rfl, rfl, rfl, rfl, by decide +kernel⟩ ?hw ?hc
  case hw => w_witness2
  case hc =>
    refine L2.walk_ofE (l := PySem.Challenge.rw_arrowsgoon_k78_whole_texts_of_webs_and_a) (n := 63) (k := 60) (x := "script") (CX := L2.CX0) rfl (by decide) (by kernel_rfl) ⟨rfl, by decide, by decide⟩ ?F (fun _ _ _ _ z => z)
    intro w mg fa h Y G hmg0
    obtain ⟨K, KX, c, ce⟩ := Y
    have hmg : mg ("law" : PySem.Str) = some (.ref fa) := by
      have e : (HandSHeadRun.topDef (OpenLaw.row PySem.Challenge.rw_arrowsgoon_k78_whole_texts_of_webs_and_a).prog 62).name = ("law" : PySem.Str) := by kernel_rfl
      rw [← e]
      exact hmg0
    obtain ⟨fd, hb, hF⟩ := PL.facts (P := (PySem.Challenge.rw_arrowsgoon_k78_whole_texts_of_webs_and_a).prog) (w := w) KX G hmg c ce
    refine ⟨K, fd, PL.spNo K mg PL.sp_law, KX, hb, fun H a ns hl _ hS => ?_, hF⟩
    exact ⟨H, fun _ => none, fun _ => none, [.rd (ns.map .int)], fun d _ => d = .bl true, ⟨(fun _ _ e => e), (fun _ _ e => by cases e), (fun _ _ e => by cases e), (fun _ _ e => by cases e)⟩, ⟨.ref a, [], rfl, ⟨a, ns.map L2.V.int, rfl, hS, PL.Reps.of_ints⟩, rfl⟩, ⟨ns, rfl, Nat.le_trans hl (by decide), fun _ => rfl⟩, fun I' H' μ' d v _ _ r e => by
      subst e
      exact r⟩
