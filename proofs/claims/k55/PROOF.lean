import PyProof.Rows.All
import Wide.All
import OpenK.AllK
import Wide.FinOn
import HandS.List
import HandS.Comp
import HandS.Ends
import HandS.Iter
import HandS.Words
import HandS.WordsList
import HandS.Lambda
import KE.KNest
import HandS.TupAny
import HandS.TupMul
import HandS.IsInst
import HandS.Style
import HandS.Zip
import HandS.Rev
import HandS.SortInts
import KE.DataEq
import KE.DataFind
import KE.SortData
import KE.GoesEnum
import KE.GoesNew
import KE.GoesMore
import HandS.Conv
import KE.DataMinMax
import HandS.Text
import PyProof.Rows.Range3
import KE.KDictSum
import KE.KDictCopyH
import HandS.ExcOwn
import HandS.ExcIs
import HandS.WordsExc
import HandS.HotCalls
import HandS.More
import PyProof.FitsReplace
import KE.KLam
import KE.SortKeyHeap
import HandS.EndTab
import HandS.EndOwn
import KE.KIndexOf
import HandS.WideBits
import KE.KTupSum
import PySem.Challenge.RW_knotlessrows_k55_rows_and_trees_read
set_option Elab.async false
set_option linter.all false
set_option maxRecDepth 100000
set_option maxHeartbeats 4000000
namespace VL
open PySem PySem.Spec PyProof.Rows L2

/-- a value with all that stands below it -/
inductive D where
  | non | bl (b : Bool) | int (i : Int) | str (x : Str) | ty (n : String) | ref (a : Addr)
  | tup (xs : List D) | lst (xs : List D) | scr (xs : List D) | tuq (xs : List D)
/-- an object that is owned: it may change -/
inductive Ob where
  | lst (xs : List D) | dK (kvs : List (Key × D)) | dT (kvs : List (List Key × D)) | ins (C : Addr) (fs : List (Str × D))
  /-- the dict at d: its keys are tuples of ints, its values True -/
  | kS (d : Addr) (ks : List (List Int))
  /-- a caught error of the class of that name -/
  | exc (nm : Str)
  /-- the table, at P, of the code objects that the def x made -/
  | tb (P : Addr) (x : Str)
/-- an entry of such a dict -/
def entR (x : List Int × Addr) : DictEntry := ⟨reduceHash (Builtin.Tuple.tupleHashOf (x.1.map hashInt)), .ref x.2, .bool true⟩
def DRaw (d : Addr) (xs : List (List Int × Addr)) (h : Heap) : Prop := ∃ o es ep, h.get? d = some o ∧ o.ExactDict ∧ o.data = .dict es ep ∧ es.toList = xs.map entR
abbrev Own := Addr → Option Ob
def ust (S : Own) (a : Addr) (o : Ob) : Own := fun b => if b = a then some o else S b
theorem ust_same {S : Own} {a : Addr} {o : Ob} : ust S a o a = some o := by unfold ust; rw [if_pos rfl]
theorem ust_ne {S : Own} {a b : Addr} {o : Ob} (h : b ≠ a) : ust S a o b = S b := by unfold ust; rw [if_neg h]
theorem ust_ust {S : Own} {a : Addr} {o u : Ob} : ust (ust S a o) a u = ust S a u := by
  funext b; unfold ust; split <;> rfl
theorem ust_id {S : Own} {a : Addr} {o : Ob} (h : S a = some o) : ust S a o = S := by
  funext b; unfold ust; split
  · rename_i e; rw [e, h]
  · rfl
theorem own_ne {S : Own} {a p : Addr} {o : Ob} (h : S a = some o) (h' : S p = none) : a ≠ p := by
  intro e; subst e; rw [h] at h'; cases h'
/-- all that is owned in S is so in S' -/
def Sub (S S' : Own) : Prop := ∀ a o, S a = some o → S' a = some o
theorem Sub.refl (S : Own) : Sub S S := fun _ _ h => h
theorem Sub.trans {S S1 S2 : Own} (a : Sub S S1) (b : Sub S1 S2) : Sub S S2 := fun c o h => b c o (a c o h)
theorem Sub.new {S S' : Own} (h : Sub S S') {p : Addr} {o : Ob} (hp : S p = none) : Sub S (ust S' p o) := fun a u e => by
  rw [ust_ne (own_ne e hp)]; exact h a u e
theorem Sub.set {S S' : Own} (h : Sub S S') {p : Addr} {o : Ob} : Sub (ust S p o) (ust S' p o) := fun a u e => by
  by_cases z : a = p
  · subst z; rw [ust_same] at e ⊢; exact e
  · rw [ust_ne z] at e ⊢; exact h a u e

abbrev VS := List (Option D)
def nth : VS → Nat → Option D
  | [], _ => none
  | x :: _, 0 => x
  | _ :: r, n + 1 => nth r n
def sat : VS → Nat → D → VS
  | [], _, _ => []
  | _ :: r, 0, d => some d :: r
  | x :: r, n + 1, d => x :: sat r n d
def unst : VS → Nat → VS
  | [], _ => []
  | _ :: r, 0 => none :: r
  | x :: r, n + 1 => x :: unst r n
def wip (ρ : VS) : List Nat → VS
  | [] => ρ
  | v :: vs => unst (wip ρ vs) v

def KT (K : PySem.W.Frag) (a : Addr) (vs : List V) : Prop :=
  ∃ (o : Obj) (its : Array Value) (n : Nat), K.lookup a = some o ∧ o.cls = .type "tuple" ∧ o.dict = none ∧ o.data = .seq its n ∧ its.size ≤ sizeLine ∧ Vals vs its.toList
def KL (K : PySem.W.Frag) (a : Addr) (vs : List V) : Prop :=
  ∃ (o : Obj) (its : Array Value) (n : Nat), K.lookup a = some o ∧ o.cls = .type "list" ∧ o.dict = none ∧ o.data = .seq its n ∧ its.size ≤ sizeLine ∧ Vals vs its.toList
/-- a tuple that was made here: no dict of its own -/
def FT (H : Hp) (a : Addr) (vs : List V) : Prop := ∃ ob : Obj, H a = some (.frz ob (.tup vs)) ∧ ob.dict = none
section
variable (K : PySem.W.Frag) (H : Hp) (S : Own) (Z : Addr → Prop)
mutual
def Rp : D → V → Prop
  | .non, v => v = .non
  | .bl b, v => v = .bl b
  | .int i, v => v = .int i
  | .str x, v => v = .str x
  | .ty n, v => v = .ty n
  | .ref a, v => v = .ref a
  | .tup ds, v => ∃ a vs, v = .ref a ∧ ((FT H a vs ∧ S a = none) ∨ KT K a vs) ∧ Rps ds vs
  | .tuq ds, v => ∃ a vs, v = .ref a ∧ (Rd H a (.tup vs) ∧ S a = none) ∧ Rps ds vs
  | .lst ds, v => ∃ a vs, v = .ref a ∧ H a = some (.lst vs) ∧ S a = none ∧ ¬ Z a ∧ Rps ds vs
  | .scr ds, v => ∃ a vs, v = .ref a ∧ ((Rd H a (.lst vs) ∧ S a = none ∧ ¬ Z a) ∨ KL K a vs) ∧ Rps ds vs
def Rps : List D → List V → Prop
  | [], vs => vs = []
  | d :: ds, vs => ∃ v r, vs = v :: r ∧ Rp d v ∧ Rps ds r
end
end
def RpO (K : PySem.W.Frag) (H : Hp) (S : Own) (Z : Addr → Prop) : Ob → HO → Prop
  | .lst ds, .lst vs => Rps K H S Z ds vs
  | .dK kvs, .dK kws => kvs.map (·.1) = kws.map (·.1) ∧ Rps K H S Z (kvs.map (·.2)) (kws.map (·.2))
  | .dT kvs, .dT kws => kvs.map (·.1) = kws.map (·.1) ∧ Rps K H S Z (kvs.map (·.2)) (kws.map (·.2))
  | .ins C fs, .ins C' _ gs => C = C' ∧ fs.map (·.1) = gs.map (·.1) ∧ Rps K H S Z (fs.map (·.2)) (gs.map (·.2))
  | .kS d ks, .ext φ => ∃ xs : List (List Int × Addr), φ = DRaw d xs ∧ xs.map (·.1) = ks ∧ ks.Nodup ∧ ks.length ≤ sizeLine ∧ (d == sysModules) = false ∧ Rps K H S Z (ks.map fun k => D.tup (k.map D.int)) (xs.map fun x => V.ref x.2)
  | .exc nm, .frz oe _ => ∃ C, PySem.W.nsIn K mainGlobals nm = some (some (.ref C)) ∧ oe.cls = .ref C ∧ oe.dict = none ∧ ∃ vs, oe.data = .fields vs
  | .tb P x, .tbl ps => (PySem.W.tabIn K x).map (·.2) = some P ∧ TriplesOk ps.toList ∧ ∀ (pos : Pos) (cv : Value), codeAmong pos ps.toList = some cv → ∃ c, cv = .ref c ∧ H c = some (LamX.CodeO c ((x ++ (".<locals>." : Str)) ++ ("<lambda>" : Str))) ∧ S c = none ∧ ¬ Z c
  | _, _ => False
/-- what is owned stands in the heap; what is hidden is there -/
structure Sim (K : PySem.W.Frag) (H : Hp) (S : Own) (Z : Addr → Prop) : Prop where
  own : ∀ a ob, S a = some ob → ¬ Z a ∧ ∃ ho, H a = some ho ∧ RpO K H S Z ob ho
  hid : ∀ a, Z a → H a ≠ none
/-- the slots -/
structure RpL (K : PySem.W.Frag) (H : Hp) (S : Own) (Z : Addr → Prop) (ρ : VS) (σ : L2.St) : Prop where
  len : ρ.length = σ.length
  get : ∀ i d, nth ρ i = some d → ∃ v, σ[i]? = some (some v) ∧ Rp K H S Z d v
/-- what isn't owned stays -/
def Ext (H : Hp) (S : Own) (H' : Hp) (S' : Own) : Prop := ∀ a o, H a = some o → S a = none → H' a = some o ∧ S' a = none
theorem Ext.refl {H : Hp} {S : Own} : Ext H S H S := fun _ _ h n => ⟨h, n⟩
theorem Ext.trans {H H1 H2 : Hp} {S S1 S2 : Own} (a : Ext H S H1 S1) (b : Ext H1 S1 H2 S2) : Ext H S H2 S2 := fun c o h n =>
  let ⟨h1, n1⟩ := a c o h n; b c o h1 n1
/-- an object that never changes -/
def Imm : HO → Prop
  | .tup _ => True
  | .frz _ _ => True
  | _ => False
/-- the step under which what a value stands for is kept -/
def Stp (H : Hp) (S : Own) (Z : Addr → Prop) (H' : Hp) (S' : Own) (Z' : Addr → Prop) : Prop :=
  ∀ a o, H a = some o → S a = none → (Imm o ∨ ¬ Z a) → H' a = some o ∧ S' a = none ∧ (¬ Z a → ¬ Z' a)
theorem Ext.stp {H H' : Hp} {S S' : Own} {Z : Addr → Prop} (e : Ext H S H' S') : Stp H S Z H' S' Z := fun a o h n _ => ⟨(e a o h n).1, (e a o h n).2, fun z => z⟩
section
variable {K : PySem.W.Frag} {H H' H1 : Hp} {S S' S1 : Own} {Z Z' : Addr → Prop}
theorem rd_imm {H : Hp} {a : Addr} {vs : List V} (h : Rd H a (.tup vs)) : ∃ o, H a = some o ∧ Imm o := by
  rcases h with h | ⟨o, h⟩
  · exact ⟨_, h, trivial⟩
  · exact ⟨_, h, trivial⟩
theorem rd_stay {H H' : Hp} {a : Addr} {u : HO} (h : Rd H a u) (k : ∀ o, H a = some o → H' a = some o) : Rd H' a u := by
  rcases h with h | ⟨o, h⟩
  · exact .inl (k _ h)
  · exact .inr ⟨o, k _ h⟩
theorem rd_some {H : Hp} {a : Addr} {u : HO} (h : Rd H a u) : ∃ o, H a = some o := by
  rcases h with h | ⟨o, h⟩
  · exact ⟨_, h⟩
  · exact ⟨_, h⟩
mutual
theorem Rp.stp (e : Stp H S Z H' S' Z') : ∀ (d : D) (v : V), Rp K H S Z d v → Rp K H' S' Z' d v
  | .non, v, h => by simp only [Rp] at h ⊢; exact h
  | .bl b, v, h => by simp only [Rp] at h ⊢; exact h
  | .int i, v, h => by simp only [Rp] at h ⊢; exact h
  | .str x, v, h => by simp only [Rp] at h ⊢; exact h
  | .ty n, v, h => by simp only [Rp] at h ⊢; exact h
  | .ref a, v, h => by simp only [Rp] at h ⊢; exact h
  | .tup ds, v, h => by
    simp only [Rp] at h ⊢
    obtain ⟨a, vs, ev, h1, h2⟩ := h
    refine ⟨a, vs, ev, ?_, Rps.stp e ds vs h2⟩
    rcases h1 with ⟨h1, n⟩ | h1
    · obtain ⟨ob, ho, hd⟩ := h1
      have q := e a _ ho n (.inl trivial)
      exact .inl ⟨⟨ob, q.1, hd⟩, q.2.1⟩
    · exact .inr h1
  | .tuq ds, v, h => by
    simp only [Rp] at h ⊢
    obtain ⟨a, vs, ev, ⟨h1, n⟩, h2⟩ := h
    obtain ⟨o, ho, im⟩ := rd_imm h1
    have q := e a o ho n (.inl im)
    exact ⟨a, vs, ev, ⟨rd_stay h1 fun o' ho' => by rw [ho] at ho'; cases ho'; exact q.1, q.2.1⟩, Rps.stp e ds vs h2⟩
  | .lst ds, v, h => by
    simp only [Rp] at h ⊢
    obtain ⟨a, vs, ev, h1, n, z, h2⟩ := h
    have q := e a _ h1 n (.inr z)
    exact ⟨a, vs, ev, q.1, q.2.1, q.2.2 z, Rps.stp e ds vs h2⟩
  | .scr ds, v, h => by
    simp only [Rp] at h ⊢
    obtain ⟨a, vs, ev, h1, h2⟩ := h
    refine ⟨a, vs, ev, ?_, Rps.stp e ds vs h2⟩
    rcases h1 with ⟨h1, n, z⟩ | h1
    · obtain ⟨o, ho⟩ := rd_some h1
      have q := e a o ho n (.inr z)
      exact .inl ⟨rd_stay h1 fun o' ho' => by rw [ho] at ho'; cases ho'; exact q.1, q.2.1, q.2.2 z⟩
    · exact .inr h1
theorem Rps.stp (e : Stp H S Z H' S' Z') : ∀ (ds : List D) (vs : List V), Rps K H S Z ds vs → Rps K H' S' Z' ds vs
  | [], vs, h => by simp only [Rps] at h ⊢; exact h
  | d :: ds, vs, h => by
    simp only [Rps] at h ⊢
    obtain ⟨v, r, ev, h1, h2⟩ := h
    exact ⟨v, r, ev, Rp.stp e d v h1, Rps.stp e ds r h2⟩
end
theorem Rp.ext {d : D} {v : V} (h : Rp K H S Z d v) (e : Ext H S H' S') : Rp K H' S' Z d v := Rp.stp e.stp d v h
theorem Rps.ext {ds : List D} {vs : List V} (h : Rps K H S Z ds vs) (e : Ext H S H' S') : Rps K H' S' Z ds vs := Rps.stp e.stp ds vs h
theorem RpL.stp {ρ : VS} {σ : L2.St} (h : RpL K H S Z ρ σ) (e : Stp H S Z H' S' Z') : RpL K H' S' Z' ρ σ := ⟨h.len, fun i d q => let ⟨v, h1, h2⟩ := h.get i d q; ⟨v, h1, Rp.stp e d v h2⟩⟩
theorem RpL.ext {ρ : VS} {σ : L2.St} (h : RpL K H S Z ρ σ) (e : Ext H S H' S') : RpL K H' S' Z ρ σ := h.stp e.stp
theorem RpO.stp {ob : Ob} {ho : HO} (h : RpO K H S Z ob ho) (e : Stp H S Z H' S' Z') : RpO K H' S' Z' ob ho := by
  cases ob <;> cases ho <;> simp only [RpO] at h ⊢ <;> first
    | exact Rps.stp e _ _ h
    | exact ⟨h.1, Rps.stp e _ _ h.2⟩
    | exact ⟨h.1, h.2.1, Rps.stp e _ _ h.2.2⟩
    | (obtain ⟨xs, h1, h2, h3, h4, h5, h6⟩ := h; exact ⟨xs, h1, h2, h3, h4, h5, Rps.stp e _ _ h6⟩)
    | exact ⟨h.1, h.2.1, fun pos cv hcv => let ⟨c, e1, e2, e3, e4⟩ := h.2.2 pos cv hcv; have q := e c _ e2 e3 (.inr e4); ⟨c, e1, q.1, q.2.1, q.2.2 e4⟩⟩
    | exact h
theorem Rps.len : ∀ {ds : List D} {vs : List V}, Rps K H S Z ds vs → ds.length = vs.length
  | [], vs, h => by simp only [Rps] at h; subst h; rfl
  | d :: ds, vs, h => by
    simp only [Rps] at h
    obtain ⟨v, r, rfl, _, h2⟩ := h
    simp only [List.length_cons, Rps.len h2]
theorem rps_nil : Rps K H S Z [] [] := by simp only [Rps]
theorem rps_cons {d : D} {v : V} {ds : List D} {vs : List V} (h : Rp K H S Z d v) (t : Rps K H S Z ds vs) : Rps K H S Z (d :: ds) (v :: vs) := by
  simp only [Rps]; exact ⟨v, vs, rfl, h, t⟩
theorem rps_append : ∀ {ds es : List D} {vs ws : List V}, Rps K H S Z ds vs → Rps K H S Z es ws → Rps K H S Z (ds ++ es) (vs ++ ws)
  | [], es, vs, ws, h, t => by simp only [Rps] at h; subst h; exact t
  | d :: ds, es, vs, ws, h, t => by
    simp only [Rps] at h
    obtain ⟨v, r, rfl, h1, h2⟩ := h
    exact rps_cons h1 (rps_append h2 t)
theorem rps_getD : ∀ {ds : List D} {vs : List V} {i : Nat} {d : D}, Rps K H S Z ds vs → ds[i]? = some d → ∃ v, vs[i]? = some v ∧ Rp K H S Z d v
  | [], vs, i, d, h, e => by simp at e
  | d' :: ds, vs, 0, d, h, e => by
    simp only [Rps] at h
    obtain ⟨v', r, rfl, h1, h2⟩ := h
    simp at e; subst e; exact ⟨v', rfl, h1⟩
  | d' :: ds, vs, i + 1, d, h, e => by
    simp only [Rps] at h
    obtain ⟨v', r, rfl, h1, h2⟩ := h
    obtain ⟨v, h3, h4⟩ := rps_getD h2 (by simpa using e)
    exact ⟨v, by simpa using h3, h4⟩
theorem rps_set : ∀ {ds : List D} {vs : List V} {i : Nat} {d : D} {v : V}, Rps K H S Z ds vs → Rp K H S Z d v → Rps K H S Z (ds.set i d) (vs.set i v)
  | [], vs, i, d, v, h, r => by simp only [Rps] at h; subst h; simp only [List.set_nil, Rps]
  | d' :: ds, vs, 0, d, v, h, r => by
    simp only [Rps] at h
    obtain ⟨v', t, rfl, h1, h2⟩ := h
    exact rps_cons r h2
  | d' :: ds, vs, i + 1, d, v, h, r => by
    simp only [Rps] at h
    obtain ⟨v', t, rfl, h1, h2⟩ := h
    exact rps_cons h1 (rps_set h2 r)
theorem rps_take : ∀ {ds : List D} {vs : List V} (n : Nat), Rps K H S Z ds vs → Rps K H S Z (ds.take n) (vs.take n)
  | ds, vs, 0, h => by simp only [List.take_zero, Rps]
  | [], vs, n + 1, h => by simp only [Rps] at h; subst h; simp only [List.take_nil, Rps]
  | d' :: ds, vs, n + 1, h => by
    simp only [Rps] at h
    obtain ⟨v', t, rfl, h1, h2⟩ := h
    exact rps_cons h1 (rps_take n h2)
theorem rps_drop : ∀ {ds : List D} {vs : List V} (n : Nat), Rps K H S Z ds vs → Rps K H S Z (ds.drop n) (vs.drop n)
  | ds, vs, 0, h => by exact h
  | [], vs, n + 1, h => by simp only [Rps] at h; subst h; simp only [List.drop_nil, Rps]
  | d' :: ds, vs, n + 1, h => by
    simp only [Rps] at h
    obtain ⟨v', t, rfl, h1, h2⟩ := h
    exact rps_drop n h2
theorem rps_erase : ∀ {ds : List D} {vs : List V} (n : Nat), Rps K H S Z ds vs → Rps K H S Z (ds.eraseIdx n) (vs.eraseIdx n)
  | [], vs, n, h => by simp only [Rps] at h; subst h; simp only [List.eraseIdx_nil, Rps]
  | d' :: ds, vs, 0, h => by
    simp only [Rps] at h
    obtain ⟨v', t, rfl, h1, h2⟩ := h
    exact h2
  | d' :: ds, vs, n + 1, h => by
    simp only [Rps] at h
    obtain ⟨v', t, rfl, h1, h2⟩ := h
    exact rps_cons h1 (rps_erase n h2)
theorem rps_reverse : ∀ {ds : List D} {vs : List V}, Rps K H S Z ds vs → Rps K H S Z ds.reverse vs.reverse
  | [], vs, h => by simp only [Rps] at h; subst h; simp only [List.reverse_nil, Rps]
  | d' :: ds, vs, h => by
    simp only [Rps] at h
    obtain ⟨v', t, rfl, h1, h2⟩ := h
    rw [List.reverse_cons, List.reverse_cons]
    exact rps_append (rps_reverse h2) (rps_cons h1 rps_nil)
theorem rps_ints : ∀ {ns : List Int} {vs : List V}, Rps K H S Z (ns.map D.int) vs → vs = ns.map V.int
  | [], vs, h => by simp only [List.map_nil, Rps] at h; exact h
  | n :: ns, vs, h => by
    simp only [List.map_cons, Rps] at h
    obtain ⟨v', t, rfl, h1, h2⟩ := h
    simp only [Rp] at h1
    rw [h1, rps_ints h2]; rfl
theorem rps_of_ints : ∀ {ns : List Int}, Rps K H S Z (ns.map D.int) (ns.map V.int)
  | [] => rps_nil
  | n :: ns => rps_cons (by simp only [Rp]) rps_of_ints
theorem rps_bls : ∀ {ns : List Bool} {vs : List V}, Rps K H S Z (ns.map D.bl) vs → vs = ns.map V.bl
  | [], vs, h => by simp only [List.map_nil, Rps] at h; exact h
  | n :: ns, vs, h => by
    simp only [List.map_cons, Rps] at h
    obtain ⟨v', t, rfl, h1, h2⟩ := h
    simp only [Rp] at h1
    rw [h1, rps_bls h2]; rfl
theorem nth_sat_same {ρ : VS} {i : Nat} {d : D} : i < ρ.length → nth (sat ρ i d) i = some d := by
  induction ρ generalizing i with
  | nil => intro h; simp at h
  | cons x r ih =>
    intro h
    cases i with
    | zero => rfl
    | succ i => exact ih (by simpa using h)
theorem nth_sat_ne {ρ : VS} {i j : Nat} {d : D} (h : j ≠ i) : nth (sat ρ i d) j = nth ρ j := by
  induction ρ generalizing i j with
  | nil => rfl
  | cons x r ih =>
    cases i with
    | zero => cases j with
      | zero => exact absurd rfl h
      | succ j => rfl
    | succ i => cases j with
      | zero => rfl
      | succ j => exact ih (fun e => h (by rw [e]))
theorem sat_length {ρ : VS} {i : Nat} {d : D} : (sat ρ i d).length = ρ.length := by
  induction ρ generalizing i with
  | nil => rfl
  | cons x r ih => cases i with
    | zero => rfl
    | succ i => simp only [sat, List.length_cons, ih]
theorem unst_length {ρ : VS} {i : Nat} : (unst ρ i).length = ρ.length := by
  induction ρ generalizing i with
  | nil => rfl
  | cons x r ih => cases i with
    | zero => rfl
    | succ i => simp only [unst, List.length_cons, ih]
theorem nth_lt {ρ : VS} {i : Nat} {d : D} (h : nth ρ i = some d) : i < ρ.length := by
  induction ρ generalizing i with
  | nil => cases h
  | cons x r ih => cases i with
    | zero => simp
    | succ i => have := ih h; simp; omega
theorem nth_unst {ρ : VS} {i j : Nat} {d : D} (h : nth (unst ρ i) j = some d) : j ≠ i ∧ nth ρ j = some d := by
  induction ρ generalizing i j with
  | nil => cases h
  | cons x r ih =>
    cases i with
    | zero => cases j with
      | zero => cases h
      | succ j => exact ⟨Nat.succ_ne_zero j, h⟩
    | succ i => cases j with
      | zero => exact ⟨Ne.symm (Nat.succ_ne_zero i), h⟩
      | succ j =>
        have q : j ≠ i ∧ nth r j = some d := ih h
        exact ⟨fun e => q.1 (Nat.succ.inj e), q.2⟩
theorem wip_length {ρ : VS} : ∀ {vs : List Nat}, (wip ρ vs).length = ρ.length
  | [] => rfl
  | v :: vs => by unfold wip; rw [unst_length, wip_length]
theorem nth_wip {ρ : VS} {j : Nat} {d : D} : ∀ {vs : List Nat}, nth (wip ρ vs) j = some d → j ∉ vs ∧ nth ρ j = some d
  | [], h => ⟨by simp, h⟩
  | v :: vs, h => by
    unfold wip at h
    obtain ⟨h1, h2⟩ := nth_unst h
    obtain ⟨h3, h4⟩ := nth_wip h2
    exact ⟨by simp only [List.mem_cons, not_or]; exact ⟨h1, h3⟩, h4⟩
theorem RpL.set {ρ : VS} {σ : L2.St} (h : RpL K H S Z ρ σ) {i : Nat} {d : D} {v : V} (r : Rp K H S Z d v) : RpL K H S Z (sat ρ i d) (σ.set i (some v)) := by
  refine ⟨by rw [sat_length, List.length_set, h.len], fun j e q => ?_⟩
  by_cases hj : j = i
  · subst hj
    have hl : j < ρ.length := by have := nth_lt q; rwa [sat_length] at this
    rw [nth_sat_same hl] at q; cases q
    exact ⟨v, List.getElem?_set_self (by rw [← h.len]; exact hl), r⟩
  · rw [nth_sat_ne hj] at q
    obtain ⟨w, h1, h2⟩ := h.get j e q
    exact ⟨w, by rw [List.getElem?_set_ne (Ne.symm hj)]; exact h1, h2⟩
theorem wipe_get {σ : L2.St} {i : Nat} : ∀ {vs : List Nat}, i ∉ vs → (wipe σ vs)[i]? = σ[i]?
  | [], _ => rfl
  | v :: vs, h => by
    simp only [List.mem_cons, not_or] at h
    unfold wipe
    rw [List.getElem?_set_ne (Ne.symm h.1), wipe_get h.2]
theorem RpL.wipe {ρ : VS} {σ : L2.St} (h : RpL K H S Z ρ σ) (vs : List Nat) : RpL K H S Z (wip ρ vs) (L2.wipe σ vs) :=
  ⟨by rw [wip_length, wipe_length, h.len], fun i d q => by
    obtain ⟨h1, h2⟩ := nth_wip q
    obtain ⟨v, h3, h4⟩ := h.get i d h2
    exact ⟨v, by rw [wipe_get h1]; exact h3, h4⟩⟩
theorem Sim.free (m : Sim K H S Z) {p : Addr} (h : H p = none) : S p = none := by
  cases e : S p with
  | none => rfl
  | some ob =>
    obtain ⟨_, ho, q, _⟩ := m.own p ob e
    rw [h] at q; cases q
theorem Sim.nz (m : Sim K H S Z) {p : Addr} (h : H p = none) : ¬ Z p := fun z => m.hid p z h
/-- a new object that isn't owned -/
theorem ext_new (m : Sim K H S Z) {p : Addr} {o : HO} (h : H p = none) : Ext H S (upd H p o) S := fun a u e n =>
  ⟨by rw [upd_ne (ne_of_none e h)]; exact e, n⟩
theorem sim_new (m : Sim K H S Z) {p : Addr} {o : HO} (h : H p = none) : Sim K (upd H p o) S Z :=
  ⟨fun a ob e => by
    obtain ⟨z, ho, q, r⟩ := m.own a ob e
    exact ⟨z, ho, by rw [upd_ne (ne_of_none q h)]; exact q, r.stp (ext_new m h).stp⟩,
   fun a z => by
    have := m.hid a z
    by_cases e : a = p
    · subst e; exact absurd h this
    · rw [upd_ne e]; exact this⟩
/-- a new object that is owned -/
theorem ext_own (m : Sim K H S Z) {p : Addr} {o : HO} {ob : Ob} (h : H p = none) : Ext H S (upd H p o) (ust S p ob) := fun a u e n =>
  ⟨by rw [upd_ne (ne_of_none e h)]; exact e, by rw [ust_ne (ne_of_none e h)]; exact n⟩
theorem sim_own (m : Sim K H S Z) {p : Addr} {o : HO} {ob : Ob} (h : H p = none) (r : RpO K (upd H p o) (ust S p ob) Z ob o) : Sim K (upd H p o) (ust S p ob) Z :=
  ⟨fun a u e => by
    by_cases z : a = p
    · subst z
      rw [ust_same] at e; cases e
      exact ⟨m.nz h, o, upd_same, r⟩
    · rw [ust_ne z] at e
      obtain ⟨z2, ho, q, r2⟩ := m.own a u e
      exact ⟨z2, ho, by rw [upd_ne z]; exact q, r2.stp (ext_own m h).stp⟩,
   fun a z => by
    have := m.hid a z
    by_cases e : a = p
    · subst e; exact absurd h this
    · rw [upd_ne e]; exact this⟩
/-- an owned object changed -/
theorem ext_set (m : Sim K H S Z) {p : Addr} {o : HO} {ob ob' : Ob} (h : S p = some ob) : Ext H S (upd H p o) (ust S p ob') := fun a u e n => by
  have z : a ≠ p := fun z => by subst z; rw [h] at n; cases n
  exact ⟨by rw [upd_ne z]; exact e, by rw [ust_ne z]; exact n⟩
theorem sim_set (m : Sim K H S Z) {p : Addr} {o : HO} {ob ob' : Ob} (h : S p = some ob) (r : RpO K (upd H p o) (ust S p ob') Z ob' o) : Sim K (upd H p o) (ust S p ob') Z :=
  ⟨fun a u e => by
    by_cases z : a = p
    · subst z
      rw [ust_same] at e; cases e
      exact ⟨(m.own _ _ h).1, o, upd_same, r⟩
    · rw [ust_ne z] at e
      obtain ⟨z2, ho, q, r2⟩ := m.own a u e
      exact ⟨z2, ho, by rw [upd_ne z]; exact q, r2.stp (ext_set m h).stp⟩,
   fun a z => by
    have := m.hid a z
    by_cases e : a = p
    · subst e; rw [upd_same]; exact fun q => nomatch q
    · rw [upd_ne e]; exact this⟩
/-- less is owned -/
theorem ext_sub (s : Sub S' S) : Ext H S H S' := fun a u e n => ⟨e, by
  cases q : S' a with
  | none => rfl
  | some o => rw [s a o q] at n; cases n⟩
theorem sim_sub (m : Sim K H S Z) (s : Sub S' S) : Sim K H S' Z :=
  ⟨fun a ob e => by
    obtain ⟨z, ho, q, r⟩ := m.own a ob (s a ob e)
    exact ⟨z, ho, q, r.stp (ext_sub s).stp⟩, m.hid⟩
theorem Sim.lst (m : Sim K H S Z) {p : Addr} {ds : List D} (h : S p = some (.lst ds)) : ∃ vs, H p = some (.lst vs) ∧ Rps K H S Z ds vs := by
  obtain ⟨_, ho, q, r⟩ := m.own p _ h
  cases ho <;> simp only [RpO] at r
  exact ⟨_, q, r⟩
theorem Sim.ins (m : Sim K H S Z) {p C : Addr} {fs : List (Str × D)} (h : S p = some (.ins C fs)) : ∃ dx gs, H p = some (.ins C dx gs) ∧ fs.map (·.1) = gs.map (·.1) ∧ Rps K H S Z (fs.map (·.2)) (gs.map (·.2)) := by
  obtain ⟨_, ho, q, r⟩ := m.own p _ h
  cases ho <;> simp only [RpO] at r
  obtain ⟨rfl, r⟩ := r
  exact ⟨_, _, q, r⟩
end
end VL
namespace VL
open PySem PySem.Spec PyProof.Rows L2
abbrev KE := D → Own → Prop
abbrev TEv := VS → Own → KE → Prop
abbrev TTv := VS → Own → (Bool → Own → Prop) → Prop
abbrev TAv := VS → Own → (List D → Own → Prop) → Prop
structure EndsV where
  nx : VS → Own → Prop
  rt : KE
  bk : VS → Own → Prop := fun _ _ => False
  ct : VS → Own → Prop := fun _ _ => False
abbrev TSv := EndsV → VS → Own → Prop
abbrev R1v := D → Own → KE → Prop
abbrev R2v := D → D → Own → KE → Prop
abbrev RAv := List D → Own → KE → Prop
section
variable (K : PySem.W.Frag)
def upE (T : TEv) : TE := fun σ H Q => ∃ Z ρ S Qv, Sim K H S Z ∧ RpL K H S Z ρ σ ∧ T ρ S Qv ∧
  ∀ d v H' S', Ext H S H' S' → Sim K H' S' Z → Rp K H' S' Z d v → Qv d S' → Q v H'
def upT (T : TTv) : TT := fun σ H Q => ∃ Z ρ S Qv, Sim K H S Z ∧ RpL K H S Z ρ σ ∧ T ρ S Qv ∧
  ∀ b H' S', Ext H S H' S' → Sim K H' S' Z → Qv b S' → Q b H'
def upA (T : TAv) : TA := fun σ H Q => ∃ Z ρ S Qv, Sim K H S Z ∧ RpL K H S Z ρ σ ∧ T ρ S Qv ∧
  ∀ ds vs H' S', Ext H S H' S' → Sim K H' S' Z → Rps K H' S' Z ds vs → Qv ds S' → Q vs H'
structure Back (H : Hp) (S : Own) (Z : Addr → Prop) (Dv : EndsV) (E : Ends) : Prop where
  nx : ∀ ρ' σ' H' S', Ext H S H' S' → Sim K H' S' Z → RpL K H' S' Z ρ' σ' → Dv.nx ρ' S' → E.nx σ' H'
  rt : ∀ d v H' S', Ext H S H' S' → Sim K H' S' Z → Rp K H' S' Z d v → Dv.rt d S' → E.rt v H'
  bk : ∀ ρ' σ' H' S', Ext H S H' S' → Sim K H' S' Z → RpL K H' S' Z ρ' σ' → Dv.bk ρ' S' → E.bk σ' H'
  ct : ∀ ρ' σ' H' S', Ext H S H' S' → Sim K H' S' Z → RpL K H' S' Z ρ' σ' → Dv.ct ρ' S' → E.ct σ' H'
def upS (T : TSv) : TS := fun E σ H => ∃ Z ρ S Dv, Sim K H S Z ∧ RpL K H S Z ρ σ ∧ T Dv ρ S ∧ Back K H S Z Dv E
def up1 (R : R1v) : V → Hp → VK → Prop := fun x H Q => ∃ Z S dx Qv, Sim K H S Z ∧ Rp K H S Z dx x ∧ R dx S Qv ∧
  ∀ d v H' S', Ext H S H' S' → Sim K H' S' Z → Rp K H' S' Z d v → Qv d S' → Q v H'
def up2 (R : R2v) : R2 := fun x y H Q => ∃ Z S dx dy Qv, Sim K H S Z ∧ Rp K H S Z dx x ∧ Rp K H S Z dy y ∧ R dx dy S Qv ∧
  ∀ d v H' S', Ext H S H' S' → Sim K H' S' Z → Rp K H' S' Z d v → Qv d S' → Q v H'
def upC (R : RAv) : List V → Hp → VK → Prop := fun xs H Q => ∃ Z S ds Qv, Sim K H S Z ∧ Rps K H S Z ds xs ∧ R ds S Qv ∧
  ∀ d v H' S', Ext H S H' S' → Sim K H' S' Z → Rp K H' S' Z d v → Qv d S' → Q v H'
def upM (R : D → RAv) : V → List V → Hp → VK → Prop := fun x xs H Q => ∃ Z S dx ds Qv, Sim K H S Z ∧ Rp K H S Z dx x ∧ Rps K H S Z ds xs ∧ R dx ds S Qv ∧
  ∀ d v H' S', Ext H S H' S' → Sim K H' S' Z → Rp K H' S' Z d v → Qv d S' → Q v H'
end
section
variable {K : PySem.W.Frag}
theorem Back.ext {H H' : Hp} {S S' : Own} {Z : Addr → Prop} {Dv : EndsV} {E : Ends} (b : Back K H S Z Dv E) (e : Ext H S H' S') : Back K H' S' Z Dv E :=
  ⟨fun ρ σ H1 S1 e1 => b.nx ρ σ H1 S1 (e.trans e1), fun d v H1 S1 e1 => b.rt d v H1 S1 (e.trans e1), fun ρ σ H1 S1 e1 => b.bk ρ σ H1 S1 (e.trans e1), fun ρ σ H1 S1 e1 => b.ct ρ σ H1 S1 (e.trans e1)⟩
end
section
variable {X : Cx}
theorem pe_imp {e : Expr} {t t' : TE} (h : PE X e t) (i : ∀ σ H Q, t' σ H Q → t σ H Q) : PE X e t' := ⟨fun pins s σ H Q I q => h.run pins s σ H Q I (i σ H Q q)⟩
theorem pt_imp {e : Expr} {t t' : TT} (h : PT X e t) (i : ∀ σ H Q, t' σ H Q → t σ H Q) : PT X e t' := ⟨fun pins s σ H Q I q => h.run pins s σ H Q I (i σ H Q q)⟩
theorem pw_imp {e : Expr} {t t' : TT} (h : PW X e t) (i : ∀ σ H Q, t' σ H Q → t σ H Q) : PW X e t' := ⟨fun wh pins s σ H Q I q => h.run wh pins s σ H Q I (i σ H Q q)⟩
theorem pts_imp {es : List Expr} {t t' : TT} (h : PTs X es t) (i : ∀ σ H Q, t' σ H Q → t σ H Q) : PTs X es t' := ⟨fun pins s σ H Q I q => h.run pins s σ H Q I (i σ H Q q)⟩
theorem pa_imp {es : List Expr} {t t' : TA} (h : PA X es t) (i : ∀ σ H Q, t' σ H Q → t σ H Q) : PA X es t' := ⟨fun pos pins s σ H Q I q => h.run pos pins s σ H Q I (i σ H Q q)⟩
theorem ps_imp {st : Stmt} {t t' : TS} (h : PS X st t) (i : ∀ E σ H, t' E σ H → t E σ H) : PS X st t' := ⟨fun pins s σ H E I q => h.run pins s σ H E I (i E σ H q)⟩
theorem pss_imp {st : List Stmt} {t t' : TS} (h : PSs X st t) (i : ∀ E σ H, t' E σ H → t E σ H) : PSs X st t' := ⟨fun pins s σ H E I q => h.run pins s σ H E I (i E σ H q)⟩
theorem pi_imp {tg e : Expr} {t t' : TI} (h : PI X tg e t) (i : ∀ σ H R, t' σ H R → t σ H R) : PI X tg e t' := ⟨fun pins s σ H R I q => h.run pins s σ H R I (i σ H R q)⟩
theorem opR_imp {f : Value → Value → Sem Value} {r r' : R2} (h : OpR X f r) (i : ∀ x y H Q, r' x y H Q → r x y H Q) : OpR X f r' := fun pins s σ H x y v u Q I rx ry q => h pins s σ H x y v u Q I rx ry (i x y H Q q)
theorem unR_imp {f : Value → Sem Value} {r r' : V → Hp → VK → Prop} (h : UnR X f r) (i : ∀ x H Q, r' x H Q → r x H Q) : UnR X f r' := fun pins s σ H x v Q I rx q => h pins s σ H x v Q I rx (i x H Q q)
theorem callR_imp {f : Value} {r r' : List V → Hp → VK → Prop} (h : CallR X f r) (i : ∀ x H Q, r' x H Q → r x H Q) : CallR X f r' := fun pins s σ H xs us Q I r q => h pins s σ H xs us Q I r (i xs H Q q)
end
def tvVar (i : Nat) : TEv := fun ρ S Q => match nth ρ i with
  | some d => Q d S
  | none => False
def tvC (d : D) : TEv := fun _ S Q => Q d S
def tvOp (R : R2v) (Ta Tb : TEv) : TEv := fun ρ S Q => Ta ρ S fun x S1 => Tb ρ S1 fun y S2 => R x y S2 Q
def tvUn (R : R1v) (Ta : TEv) : TEv := fun ρ S Q => Ta ρ S fun x S1 => R x S1 Q
def tvTest (T : TEv) : TTv := fun ρ S Q => T ρ S fun d S1 => match d with
  | .bl b => Q b S1
  | _ => False
def tvNot (T : TTv) : TTv := fun ρ S Q => T ρ S fun b S1 => Q (!b) S1
def tvAnd (T U : TTv) : TTv := fun ρ S Q => T ρ S fun b S1 => if b = true then U ρ S1 Q else Q false S1
def tvOr (T U : TTv) : TTv := fun ρ S Q => T ρ S fun b S1 => if b = true then Q true S1 else U ρ S1 Q
def tvIfE (T : TTv) (Ta Tb : TEv) : TEv := fun ρ S Q => T ρ S fun b S1 => if b = true then Ta ρ S1 Q else Tb ρ S1 Q
def tvAndV (Ta Tb : TEv) : TEv := fun ρ S Q => Ta ρ S fun x S1 => match x with
  | .bl b => if b = true then Tb ρ S1 Q else Q (.bl false) S1
  | _ => False
def tvOrV (Ta Tb : TEv) : TEv := fun ρ S Q => Ta ρ S fun x S1 => match x with
  | .bl b => if b = true then Q (.bl true) S1 else Tb ρ S1 Q
  | _ => False
def tvNotV (Ta : TEv) : TEv := fun ρ S Q => Ta ρ S fun x S1 => match x with
  | .bl b => Q (.bl (!b)) S1
  | _ => False
def tvChain (R R' : R2v) (Ta Tb Tc : TEv) : TEv := fun ρ S Q => Ta ρ S fun x S1 => Tb ρ S1 fun y S2 => R x y S2 fun z S3 => match z with
  | .bl b => if b = true then Tc ρ S3 fun u S4 => R' y u S4 Q else Q (.bl false) S3
  | _ => False
def tvNil : TAv := fun _ S Q => Q [] S
def tvCons (T : TEv) (U : TAv) : TAv := fun ρ S Q => T ρ S fun d S1 => U ρ S1 fun ds S2 => Q (d :: ds) S2
def tvTup (T : TAv) : TEv := fun ρ S Q => T ρ S fun ds S1 => ds.length ≤ sizeLine ∧ Q (.tup ds) S1
def tvLst (T : TAv) : TEv := fun ρ S Q => T ρ S fun ds S1 => ds.length ≤ sizeLine ∧ Q (.lst ds) S1
def tvLstO (T : TAv) : TEv := fun ρ S Q => T ρ S fun ds S1 => ds.length ≤ sizeLine ∧ ∀ p, S1 p = none → Q (.ref p) (ust S1 p (.lst ds))
def tvCB (R : RAv) (T : TAv) : TEv := fun ρ S Q => T ρ S fun ds S1 => R ds S1 Q
section
variable {X : Cx}
theorem vv (i : Nat) {x : Str} {pos : Pos} (hN : X.N[i]? = some x := by rfl) (hv : Vis X.env.scope x := by first | exact Or.inl rfl | exact Or.inr (Or.inl rfl) | exact Or.inr (Or.inr rfl)) (hd : (x == ("__debug__" : Str)) = false := by decide)
    (hcd : (x == ("__classdict__" : Str)) = false := by decide) : PE X (.Name x pos) (upE X.K (tvVar i)) :=
  pe_imp (pe_var hN hv hd hcd) fun σ H Q ⟨Z, ρ, S, Qv, m, r, h, b⟩ => by
    unfold tvVar at h
    cases e : nth ρ i with
    | none => rw [e] at h; exact h.elim
    | some d =>
      rw [e] at h
      obtain ⟨v, h1, h2⟩ := r.get i d e
      exact ⟨v, h1, b d v H S .refl m h2 h⟩
theorem vc {e : Expr} {v : V} {d : D} (h : PE X e (tC v)) (hd : ∀ H S Z, Rp X.K H S Z d v) : PE X e (upE X.K (tvC d)) :=
  pe_imp h fun σ H Q ⟨Z, ρ, S, Qv, m, r, h, b⟩ => b d v H S .refl m (hd H S Z) h
theorem v_int {i j pos} : PE X (.Constant (.int i) j pos) (upE X.K (tvC (.int i))) := vc pe_int fun _ _ _ => by simp only [Rp]
theorem v_bl {i j pos} : PE X (.Constant (.bool i) j pos) (upE X.K (tvC (.bl i))) := vc pe_bl fun _ _ _ => by simp only [Rp]
theorem v_str {i j pos} : PE X (.Constant (.str i) j pos) (upE X.K (tvC (.str i))) := vc pe_str fun _ _ _ => by simp only [Rp]
theorem v_op {op : Operator} {R : R2v} {a b : Expr} {Ta Tb : TEv} {pos : Pos} (ho : OpR X (binaryOp op) (up2 X.K R)) (ha : PE X a (upE X.K Ta)) (hb : PE X b (upE X.K Tb)) : PE X (.BinOp a op b pos) (upE X.K (tvOp R Ta Tb)) :=
  pe_imp (pe_op ho ha hb) fun σ H Q ⟨Z, ρ, S, Qv, m, r, h, b⟩ =>
    ⟨Z, ρ, S, _, m, r, h, fun d v H1 S1 e1 m1 r1 h1 => ⟨Z, ρ, S1, _, m1, r.ext e1, h1, fun d2 v2 H2 S2 e2 m2 r2 h2 =>
      ⟨Z, S2, d, d2, Qv, m2, r1.ext e2, r2, h2, fun d3 v3 H3 S3 e3 m3 r3 h3 => b d3 v3 H3 S3 ((e1.trans e2).trans e3) m3 r3 h3⟩⟩⟩
theorem v_un {op : UnaryOp} {R : R1v} {a : Expr} {Ta : TEv} {pos : Pos} (ho : UnR X (unaryOp op) (up1 X.K R)) (ha : PE X a (upE X.K Ta)) : PE X (.UnaryOp op a pos) (upE X.K (tvUn R Ta)) :=
  pe_imp (pe_un ho ha) fun σ H Q ⟨Z, ρ, S, Qv, m, r, h, b⟩ =>
    ⟨Z, ρ, S, _, m, r, h, fun d v H1 S1 e1 m1 r1 h1 => ⟨Z, S1, d, Qv, m1, r1, h1, fun d3 v3 H3 S3 e3 m3 r3 h3 => b d3 v3 H3 S3 (e1.trans e3) m3 r3 h3⟩⟩
theorem v_cmp {op : CmpOp} {R : R2v} {a b : Expr} {Ta Tb : TEv} {pos : Pos} (ho : OpR X (compareOp op) (up2 X.K R)) (ha : PE X a (upE X.K Ta)) (hb : PE X b (upE X.K Tb)) (hm : behindInMarks op b = false) :
    PE X (.Compare a [op] [b] pos) (upE X.K (tvOp R Ta Tb)) :=
  pe_imp (pe_cmpR ho ha hb hm) fun σ H Q ⟨Z, ρ, S, Qv, m, r, h, b⟩ =>
    ⟨Z, ρ, S, _, m, r, h, fun d v H1 S1 e1 m1 r1 h1 => ⟨Z, ρ, S1, _, m1, r.ext e1, h1, fun d2 v2 H2 S2 e2 m2 r2 h2 =>
      ⟨Z, S2, d, d2, Qv, m2, r1.ext e2, r2, h2, fun d3 v3 H3 S3 e3 m3 r3 h3 => b d3 v3 H3 S3 ((e1.trans e2).trans e3) m3 r3 h3⟩⟩⟩
theorem tst_of {K : PySem.W.Frag} {T : TEv} {σ : L2.St} {H : Hp} {Q : Bool → Hp → Prop} (h : upT K (tvTest T) σ H Q) : upE K T σ H (fun x H' => ∃ k, x = .bl k ∧ Q k H') := by
  obtain ⟨Z, ρ, S, Qv, m, r, h, b⟩ := h
  refine ⟨Z, ρ, S, _, m, r, h, fun d v H1 S1 e1 m1 r1 h1 => ?_⟩
  cases d <;> simp only at h1
  simp only [Rp] at r1
  exact ⟨_, r1, b _ H1 S1 e1 m1 h1⟩
theorem t_cmp {op : CmpOp} {R : R2v} {a b : Expr} {Ta Tb : TEv} {pos : Pos} (ho : OpR X (compareOp op) (up2 X.K R)) (ha : PE X a (upE X.K Ta)) (hb : PE X b (upE X.K Tb)) (hm : behindInMarks op b = false) :
    PT X (.Compare a [op] [b] pos) (upT X.K (tvTest (tvOp R Ta Tb))) :=
  pt_imp (pt_cmpR ho ha hb hm) fun σ H Q h => by
    obtain ⟨Z, ρ, S, Qv, m, r, h, b⟩ := tst_of h
    exact ⟨Z, ρ, S, _, m, r, h, fun d v H1 S1 e1 m1 r1 h1 => ⟨Z, ρ, S1, _, m1, r.ext e1, h1, fun d2 v2 H2 S2 e2 m2 r2 h2 =>
      ⟨Z, S2, d, d2, Qv, m2, r1.ext e2, r2, h2, fun d3 v3 H3 S3 e3 m3 r3 h3 => b d3 v3 H3 S3 ((e1.trans e2).trans e3) m3 r3 h3⟩⟩⟩
theorem t_val {e : Expr} {T : TEv} (h : PE X e (upE X.K T)) (he : ∀ whole, isTrue e X.env whole = (do let v ← whole; standAt e.pos; holding [v] (truthy v)) := by intro _; rfl) : PT X e (upT X.K (tvTest T)) :=
  pt_imp (pt_val h he) fun σ H Q h => tst_of h
theorem t_not {a : Expr} {pos : Pos} {T : TTv} (h : PT X a (upT X.K T)) : PT X (.UnaryOp .Not a pos) (upT X.K (tvNot T)) :=
  pt_imp (pt_not h) fun σ H Q ⟨Z, ρ, S, Qv, m, r, h, b⟩ => ⟨Z, ρ, S, _, m, r, h, fun k H1 S1 e1 m1 h1 => b _ H1 S1 e1 m1 h1⟩
theorem w_and1 {a : Expr} {pos : Pos} {T : TTv} (h : PT X a (upT X.K T)) : PW X (.BoolOp .And [a] pos) (upT X.K T) := pw_and1 h
theorem w_or1 {a : Expr} {pos : Pos} {T : TTv} (h : PT X a (upT X.K T)) : PW X (.BoolOp .Or [a] pos) (upT X.K T) := pw_or1 h
theorem w_and {a b : Expr} {rest : List Expr} {pos : Pos} {T U : TTv} (ha : PT X a (upT X.K T)) (hb : PW X (.BoolOp .And (b :: rest) pos) (upT X.K U)) : PW X (.BoolOp .And (a :: b :: rest) pos) (upT X.K (tvAnd T U)) :=
  pw_imp (pw_and ha hb) fun σ H Q ⟨Z, ρ, S, Qv, m, r, h, b⟩ => ⟨Z, ρ, S, _, m, r, h, fun k H1 S1 e1 m1 h1 => by
    cases k with
    | true =>
      simp only [if_true] at h1 ⊢
      exact ⟨Z, ρ, S1, Qv, m1, r.ext e1, h1, fun k H2 S2 e2 => b k H2 S2 (e1.trans e2)⟩
    | false =>
      simp only [Bool.false_eq_true, if_false] at h1 ⊢
      exact b _ H1 S1 e1 m1 h1⟩
theorem w_or {a b : Expr} {rest : List Expr} {pos : Pos} {T U : TTv} (ha : PT X a (upT X.K T)) (hb : PW X (.BoolOp .Or (b :: rest) pos) (upT X.K U)) : PW X (.BoolOp .Or (a :: b :: rest) pos) (upT X.K (tvOr T U)) :=
  pw_imp (pw_or ha hb) fun σ H Q ⟨Z, ρ, S, Qv, m, r, h, b⟩ => ⟨Z, ρ, S, _, m, r, h, fun k H1 S1 e1 m1 h1 => by
    cases k with
    | true =>
      simp only [if_true] at h1 ⊢
      exact b _ H1 S1 e1 m1 h1
    | false =>
      simp only [Bool.false_eq_true, if_false] at h1 ⊢
      exact ⟨Z, ρ, S1, Qv, m1, r.ext e1, h1, fun k H2 S2 e2 => b k H2 S2 (e1.trans e2)⟩⟩
theorem v_ifE {c a b : Expr} {pos : Pos} {T : TTv} {Ta Tb : TEv} (hc : PT X c (upT X.K T)) (ha : PE X a (upE X.K Ta)) (hb : PE X b (upE X.K Tb)) : PE X (.IfExp c a b pos) (upE X.K (tvIfE T Ta Tb)) :=
  pe_imp (pe_ifExp hc ha hb) fun σ H Q ⟨Z, ρ, S, Qv, m, r, h, b⟩ => ⟨Z, ρ, S, _, m, r, h, fun k H1 S1 e1 m1 h1 => by
    cases k with
    | true =>
      simp only [if_true] at h1 ⊢
      exact ⟨Z, ρ, S1, Qv, m1, r.ext e1, h1, fun d v H2 S2 e2 => b d v H2 S2 (e1.trans e2)⟩
    | false =>
      simp only [Bool.false_eq_true, if_false] at h1 ⊢
      exact ⟨Z, ρ, S1, Qv, m1, r.ext e1, h1, fun d v H2 S2 e2 => b d v H2 S2 (e1.trans e2)⟩⟩
theorem v_one {op} {a : Expr} {pos : Pos} {T : TEv} (h : PE X a (upE X.K T)) : PE X (.BoolOp op [a] pos) (upE X.K T) := pe_one h
theorem v_and {a b : Expr} {rest : List Expr} {pos : Pos} {Ta Tb : TEv} (ha : PE X a (upE X.K Ta)) (hb : PE X (.BoolOp .And (b :: rest) pos) (upE X.K Tb)) : PE X (.BoolOp .And (a :: b :: rest) pos) (upE X.K (tvAndV Ta Tb)) :=
  pe_imp (pe_and ha hb) fun σ H Q ⟨Z, ρ, S, Qv, m, r, h, b⟩ => ⟨Z, ρ, S, _, m, r, h, fun d v H1 S1 e1 m1 r1 h1 => by
    cases d <;> simp only at h1
    simp only [Rp] at r1
    refine ⟨_, r1, ?_⟩
    rename_i k
    cases k with
    | true =>
      simp only [if_true] at h1 ⊢
      exact ⟨Z, ρ, S1, Qv, m1, r.ext e1, h1, fun d v H2 S2 e2 => b d v H2 S2 (e1.trans e2)⟩
    | false =>
      simp only [Bool.false_eq_true, if_false] at h1 ⊢
      exact b _ _ H1 S1 e1 m1 (by simp only [Rp]) h1⟩
theorem v_not {a : Expr} {pos : Pos} {Ta : TEv} (ha : PE X a (upE X.K Ta)) : PE X (.UnaryOp .Not a pos) (upE X.K (tvNotV Ta)) :=
  pe_imp (pe_not ha) fun σ H Q ⟨Z, ρ, S, Qv, m, r, h, b⟩ => ⟨Z, ρ, S, _, m, r, h, fun d v H1 S1 e1 m1 r1 h1 => by
    cases d <;> simp only at h1
    simp only [Rp] at r1
    exact ⟨_, r1, b _ _ H1 S1 e1 m1 (by simp only [Rp]) h1⟩⟩
theorem chain_of {K : PySem.W.Frag} {R R' : R2v} {Ta Tb Tc : TEv} {σ : L2.St} {H : Hp} {Q : VK} (h : upE K (tvChain R R' Ta Tb Tc) σ H Q) : tChain (up2 K R) (up2 K R') (upE K Ta) (upE K Tb) (upE K Tc) σ H Q := by
  obtain ⟨Z, ρ, S, Qv, m, r, h, b⟩ := h
  refine ⟨Z, ρ, S, _, m, r, h, fun d v H1 S1 e1 m1 r1 h1 => ⟨Z, ρ, S1, _, m1, r.ext e1, h1, fun d2 v2 H2 S2 e2 m2 r2 h2 =>
      ⟨Z, S2, d, d2, _, m2, r1.ext e2, r2, h2, fun d3 v3 H3 S3 e3 m3 r3 h3 => ?_⟩⟩⟩
  cases d3 <;> simp only at h3
  simp only [Rp] at r3
  refine ⟨_, r3, ?_⟩
  rename_i k
  have e : Ext H S H3 S3 := (e1.trans e2).trans e3
  cases k with
  | true =>
    simp only [if_true] at h3 ⊢
    exact ⟨Z, ρ, S3, _, m3, r.ext e, h3, fun d4 v4 H4 S4 e4 m4 r4 h4 => ⟨Z, S4, d2, d4, Qv, m4, r2.ext (e3.trans e4), r4, h4, fun d5 v5 H5 S5 e5 => b d5 v5 H5 S5 ((e.trans e4).trans e5)⟩⟩
  | false =>
    simp only [Bool.false_eq_true, if_false] at h3 ⊢
    exact b _ _ H3 S3 e m3 (by simp only [Rp]) h3
theorem v_chain {op op' : CmpOp} {R R' : R2v} {a b c : Expr} {Ta Tb Tc : TEv} {pos : Pos} (ho : OpR X (compareOp op) (up2 X.K R)) (ho' : OpR X (compareOp op') (up2 X.K R')) (ha : PE X a (upE X.K Ta)) (hb : PE X b (upE X.K Tb)) (hc : PE X c (upE X.K Tc))
    (hm : lastMarks [op, op'] [b, c] = false := by with_unfolding_all rfl) : PE X (.Compare a [op, op'] [b, c] pos) (upE X.K (tvChain R R' Ta Tb Tc)) :=
  pe_imp (pe_chain ho ho' ha hb hc hm) fun σ H Q h => chain_of h
theorem t_chain {op op' : CmpOp} {R R' : R2v} {a b c : Expr} {Ta Tb Tc : TEv} {pos : Pos} (ho : OpR X (compareOp op) (up2 X.K R)) (ho' : OpR X (compareOp op') (up2 X.K R')) (ha : PE X a (upE X.K Ta)) (hb : PE X b (upE X.K Tb)) (hc : PE X c (upE X.K Tc))
    (hm : lastMarks [op, op'] [b, c] = false := by with_unfolding_all rfl) : PT X (.Compare a [op, op'] [b, c] pos) (upT X.K (tvTest (tvChain R R' Ta Tb Tc))) :=
  pt_imp (pt_chain ho ho' ha hb hc hm) fun σ H Q h => chain_of (tst_of h)
theorem a_nil : PA X [] (upA X.K tvNil) := pa_imp pa_nil fun σ H Q ⟨Z, ρ, S, Qv, m, r, h, b⟩ => b [] [] H S .refl m rps_nil h
theorem a_cons {e : Expr} {es : List Expr} {T : TEv} {U : TAv} (ha : PE X e (upE X.K T)) (hr : PA X es (upA X.K U)) (hs : starEach (e :: es) X.env = (false, eval e X.env) :: starEach es X.env := by rfl) : PA X (e :: es) (upA X.K (tvCons T U)) :=
  pa_imp (pa_cons ha hr hs) fun σ H Q ⟨Z, ρ, S, Qv, m, r, h, b⟩ => ⟨Z, ρ, S, _, m, r, h, fun d v H1 S1 e1 m1 r1 h1 => ⟨Z, ρ, S1, _, m1, r.ext e1, h1, fun ds vs H2 S2 e2 m2 r2 h2 =>
    b (d :: ds) (v :: vs) H2 S2 (e1.trans e2) m2 (rps_cons (r1.ext e2) r2) h2⟩⟩
theorem rp_tup {K : PySem.W.Frag} {H : Hp} {S : Own} {Z : Addr → Prop} {ds : List D} {vs : List V} {p : Addr} {ob : Obj} (h : H p = some (.frz ob (.tup vs))) (hd : ob.dict = none) (n : S p = none) (r : Rps K H S Z ds vs) : Rp K H S Z (.tup ds) (.ref p) := by
  simp only [Rp]; exact ⟨p, vs, rfl, .inl ⟨⟨ob, h, hd⟩, n⟩, r⟩
theorem rp_lst {K : PySem.W.Frag} {H : Hp} {S : Own} {Z : Addr → Prop} {ds : List D} {vs : List V} {p : Addr} (h : H p = some (.lst vs)) (n : S p = none) (z : ¬ Z p) (r : Rps K H S Z ds vs) : Rp K H S Z (.lst ds) (.ref p) := by
  simp only [Rp]; exact ⟨p, vs, rfl, h, n, z, r⟩
/-- a new tuple, a new list, a new owned list -/
theorem new_tup {K : PySem.W.Frag} {H : Hp} {S : Own} {Z : Addr → Prop} {ds : List D} {vs : List V} {ob : Obj} (m : Sim K H S Z) (r : Rps K H S Z ds vs) {p : Addr} (h : H p = none) (hd : ob.dict = none) : Rp K (upd H p (.frz ob (.tup vs))) S Z (.tup ds) (.ref p) :=
  rp_tup upd_same hd (m.free h) (r.ext (ext_new m h))
theorem new_lst {K : PySem.W.Frag} {H : Hp} {S : Own} {Z : Addr → Prop} {ds : List D} {vs : List V} (m : Sim K H S Z) (r : Rps K H S Z ds vs) {p : Addr} (h : H p = none) : Rp K (upd H p (.lst vs)) S Z (.lst ds) (.ref p) :=
  rp_lst upd_same (m.free h) (m.nz h) (r.ext (ext_new m h))
theorem new_own {K : PySem.W.Frag} {H : Hp} {S : Own} {Z : Addr → Prop} {ds : List D} {vs : List V} (m : Sim K H S Z) (r : Rps K H S Z ds vs) {p : Addr} (h : H p = none) : Sim K (upd H p (.lst vs)) (ust S p (.lst ds)) Z :=
  sim_own m h (by simp only [RpO]; exact r.ext (ext_own m h))
/-- a display of a tuple, told with its object -/
def tTupF (t : TA) : TE := fun σ H Q => t σ H fun xs H1 => xs.length ≤ sizeLine ∧ ∀ p (ob : Obj), ob.dict = none → H1 p = none → Q (.ref p) (upd H1 p (.frz ob (.tup xs)))
theorem pe_tupF {es : List Expr} {t : TA} {x1} {pos : Pos} (h : PA X es t) : PE X (.Tuple es x1 pos) (tTupF t) := by
  refine ⟨fun pins s σ H Q I hq => ?_⟩
  refine wpAny_Tuple_spliced (thn (h.run pos pins s σ H _ I hq) fun us s1 ⟨xs, H1, I1, r, z, q⟩ => ⟨by rw [← r.length]; exact z, ?_⟩)
  have hf : H1 s1.heap.objs.size = none := I1.hok.fresh (Nat.le_refl _)
  refine ⟨.ref s1.heap.objs.size, upd H1 s1.heap.objs.size (.frz { cls := .type "tuple", data := .seq us.toArray } (.tup xs)), I1.laid (t' := s1.toks) (fun b u e => Heap.get?_push_of_some _ e) (Nat.le_refl _) ?_, rfl, q _ _ rfl hf⟩
  exact ⟨Heap.get?_push_size _ rfl, z, us, r, ⟨_, Heap.get?_push_size _ rfl, rfl, _, rfl⟩⟩
theorem v_tup {es : List Expr} {k : Nat} {pos : Pos} {T : TAv} (h : PA X es (upA X.K T)) : PE X (.Tuple es k pos) (upE X.K (tvTup T)) :=
  pe_imp (pe_tupF h) fun σ H Q ⟨Z, ρ, S, Qv, m, r, h, b⟩ => ⟨Z, ρ, S, _, m, r, h, fun ds vs H1 S1 e1 m1 r1 h1 => ⟨by rw [← r1.len]; exact h1.1, fun p ob hd hp =>
    b _ _ _ _ (e1.trans (ext_new m1 hp)) (sim_new m1 hp) (new_tup m1 r1 hp hd) h1.2⟩⟩
theorem v_lst {es : List Expr} {pos : Pos} {T : TAv} (h : PA X es (upA X.K T)) : PE X (.List es pos) (upE X.K (tvLst T)) :=
  pe_imp (pe_lst h) fun σ H Q ⟨Z, ρ, S, Qv, m, r, h, b⟩ => ⟨Z, ρ, S, _, m, r, h, fun ds vs H1 S1 e1 m1 r1 h1 => ⟨by rw [← r1.len]; exact h1.1, fun p hp =>
    b _ _ _ _ (e1.trans (ext_new m1 hp)) (sim_new m1 hp) (new_lst m1 r1 hp) h1.2⟩⟩
theorem v_lstO {es : List Expr} {pos : Pos} {T : TAv} (h : PA X es (upA X.K T)) : PE X (.List es pos) (upE X.K (tvLstO T)) :=
  pe_imp (pe_lst h) fun σ H Q ⟨Z, ρ, S, Qv, m, r, h, b⟩ => ⟨Z, ρ, S, _, m, r, h, fun ds vs H1 S1 e1 m1 r1 h1 => ⟨by rw [← r1.len]; exact h1.1, fun p hp =>
    b (.ref p) (.ref p) _ _ (e1.trans (ext_own m1 hp)) (new_own m1 r1 hp) (by simp only [Rp]) (h1.2 p (m1.free hp))⟩⟩
theorem v_callB {x : Str} {p pos : Pos} {e : Expr} {es : List Expr} {T : TAv} {id : String} {R : RAv} (hc : CallR X (.builtin id) (upC X.K R)) (hg : Gl X x) (hm : X.mg x = none) (hv : bootBuiltins x = some (.builtin id)) (ha : PA X (e :: es) (upA X.K T))
    (hn : x ≠ "__name__" := by decide) (hdb : (x == ("__debug__" : Str)) = false := by decide)
    (he : starEach (e :: es) X.env = (false, eval e X.env) :: starEach es X.env := by rfl) (hpl : (backTo pos (starEach es X.env)).any (·.1) = false := by rfl) : PE X (.Call (.Name x p) (e :: es) [] pos) (upE X.K (tvCB R T)) :=
  pe_imp (pe_callB hc hg hm hv ha hn hdb he hpl) fun σ H Q ⟨Z, ρ, S, Qv, m, r, h, b⟩ => ⟨Z, ρ, S, _, m, r, h, fun ds vs H1 S1 e1 m1 r1 h1 => ⟨Z, S1, ds, Qv, m1, r1, h1, fun d v H2 S2 e2 => b d v H2 S2 (e1.trans e2)⟩⟩
theorem v_callTy {x : Str} {p pos : Pos} {e : Expr} {es : List Expr} {U : TAv} {T : String} {R : RAv} (hc : CallR X (.type T) (upC X.K R)) (hg : Gl X x) (hm : X.mg x = none) (hv : bootBuiltins x = some (.type T)) (ha : PA X (e :: es) (upA X.K U))
    (hn : x ≠ "__name__" := by decide) (hdb : (x == ("__debug__" : Str)) = false := by decide)
    (he : starEach (e :: es) X.env = (false, eval e X.env) :: starEach es X.env := by rfl) (hpl : (backTo pos (starEach es X.env)).any (·.1) = false := by rfl) : PE X (.Call (.Name x p) (e :: es) [] pos) (upE X.K (tvCB R U)) :=
  pe_imp (pe_callTy hc hg hm hv ha hn hdb he hpl) fun σ H Q ⟨Z, ρ, S, Qv, m, r, h, b⟩ => ⟨Z, ρ, S, _, m, r, h, fun ds vs H1 S1 e1 m1 r1 h1 => ⟨Z, S1, ds, Qv, m1, r1, h1, fun d v H2 S2 e2 => b d v H2 S2 (e1.trans e2)⟩⟩
end
end VL
namespace VL
open PySem PySem.Spec PyProof.Rows L2
inductive Tg where
  | name (i : Nat) | tup (l : List Tg)
mutual
def bindV : Tg → D → VS → Option VS
  | .name i, d, ρ => some (sat ρ i d)
  | .tup l, .tup ds, ρ => bindVs l ds ρ
  | .tup l, .tuq ds, ρ => bindVs l ds ρ
  | _, _, _ => none
def bindVs : List Tg → List D → VS → Option VS
  | [], [], ρ => some ρ
  | t :: ts, d :: ds, ρ => match bindV t d ρ with
    | some ρ' => bindVs ts ds ρ'
    | none => none
  | _, _, _ => none
end
mutual
def gOf (K : PySem.W.Frag) : Tg → TG
  | .name i => gName i
  | .tup l => gTup K l.length (gsOf K l)
def gsOf (K : PySem.W.Frag) : List Tg → TGs
  | [] => gNil
  | t :: ts => gCons (gOf K t) (gsOf K ts)
end
mutual
def inT (vs : List Nat) : Tg → Bool
  | .name i => decide (i ∈ vs)
  | .tup l => inTs vs l
def inTs (vs : List Nat) : List Tg → Bool
  | [] => true
  | t :: ts => inT vs t && inTs vs ts
end
theorem wipe_at (σ : L2.St) : ∀ (vs : List Nat) (j : Nat), (wipe σ vs)[j]? = if j ∈ vs ∧ j < σ.length then some none else σ[j]?
  | [], j => by simp [wipe]
  | v :: vs, j => by
    unfold wipe
    have hl := wipe_length σ vs
    by_cases hj : v = j
    · subst hj
      by_cases h : v < σ.length
      · rw [List.getElem?_set_self (by omega), if_pos ⟨by simp, h⟩]
      · rw [if_neg (fun q => h q.2), List.getElem?_eq_none (by rw [List.length_set]; omega), List.getElem?_eq_none (by omega)]
    · rw [List.getElem?_set_ne hj, wipe_at σ vs j]
      by_cases h : j ∈ vs
      · by_cases h2 : j < σ.length
        · rw [if_pos ⟨h, h2⟩, if_pos ⟨by simp [h], h2⟩]
        · rw [if_neg (fun q => h2 q.2), if_neg (fun q => h2 q.2)]
      · rw [if_neg (fun q => h q.1), if_neg (fun q => by
          have q1 := q.1
          simp only [List.mem_cons] at q1
          rcases q1 with q1 | q1
          · exact hj q1.symm
          · exact h q1)]
theorem wipe_set {σ : L2.St} {vs : List Nat} {i : Nat} {x : Option V} (h : i ∈ vs) : wipe (σ.set i x) vs = wipe σ vs := by
  apply List.ext_getElem?
  intro j
  rw [wipe_at, wipe_at, List.length_set]
  by_cases hj : j ∈ vs ∧ j < σ.length
  · rw [if_pos hj, if_pos hj]
  · rw [if_neg hj, if_neg hj]
    by_cases e : i = j
    · subst e
      have h2 : ¬ i < σ.length := fun q => hj ⟨h, q⟩
      rw [List.getElem?_eq_none (by rw [List.length_set]; omega), List.getElem?_eq_none (by omega)]
    · rw [List.getElem?_set_ne e]
section
variable {K : PySem.W.Frag} {H : Hp} {S : Own} {Z : Addr → Prop}
theorem sqT_of {a : Addr} {vs : List V} (h : (FT H a vs ∧ S a = none) ∨ KT K a vs) : SqT K H a vs := by
  rcases h with ⟨⟨ob, h, _⟩, _⟩ | ⟨o, its, n, h1, h2, _, h3⟩
  · exact .inl (.inr ⟨ob, h⟩)
  · exact .inr ⟨o, its, n, h1, h2, h3⟩
mutual
theorem g_run (vs : List Nat) : ∀ (t : Tg) (d : D) (v : V) (ρ ρ' : VS) (σ : L2.St) (Q : L2.St → Hp → Prop), bindV t d ρ = some ρ' → Rp K H S Z d v → RpL K H S Z ρ σ →
    (∀ σ', RpL K H S Z ρ' σ' → (inT vs t = true → wipe σ' vs = wipe σ vs) → Q σ' H) → gOf K t v σ H Q
  | .name i, d, v, ρ, ρ', σ, Q, hb, r, rl, q => by
    simp only [bindV, Option.some.injEq] at hb
    subst hb
    unfold gOf gName
    exact q _ (rl.set r) fun hi => wipe_set (by simpa [inT] using hi)
  | .tup l, d, v, ρ, ρ', σ, Q, hb, r, rl, q => by
    have hl : ∀ (l : List Tg) (ds : List D) (ρ ρ' : VS), bindVs l ds ρ = some ρ' → l.length = ds.length := by
      intro l
      induction l with
      | nil => intro ds ρ ρ' h; cases ds with
        | nil => rfl
        | cons _ _ => simp [bindVs] at h
      | cons t ts ih => intro ds ρ ρ' h; cases ds with
        | nil => simp [bindVs] at h
        | cons d ds =>
          simp only [bindVs] at h
          split at h
          · simp only [List.length_cons, ih _ _ _ h]
          · cases h
    have go : ∀ (ds : List D) (a : Addr) (ws : List V), bindVs l ds ρ = some ρ' → v = .ref a → SqT K H a ws → Rps K H S Z ds ws → gOf K (.tup l) v σ H Q := by
      intro ds a ws hb ev h1 h2
      subst ev
      unfold gOf gTup
      exact ⟨a, ws, rfl, h1, by rw [← h2.len, hl _ _ _ _ hb], gs_run vs l ds ws ρ ρ' σ Q hb h2 rl fun σ' r' w => q σ' r' fun hi => w (by simpa [inT] using hi)⟩
    cases d <;> simp only [bindV] at hb <;> try (cases hb)
    · simp only [Rp] at r
      obtain ⟨a, ws, ev, h1, h2⟩ := r
      exact go _ a ws hb ev (sqT_of h1) h2
    · simp only [Rp] at r
      obtain ⟨a, ws, ev, h1, h2⟩ := r
      exact go _ a ws hb ev (.inl h1.1) h2
theorem gs_run (vs : List Nat) : ∀ (l : List Tg) (ds : List D) (ws : List V) (ρ ρ' : VS) (σ : L2.St) (Q : L2.St → Hp → Prop), bindVs l ds ρ = some ρ' → Rps K H S Z ds ws → RpL K H S Z ρ σ →
    (∀ σ', RpL K H S Z ρ' σ' → (inTs vs l = true → wipe σ' vs = wipe σ vs) → Q σ' H) → gsOf K l ws σ H Q
  | [], ds, ws, ρ, ρ', σ, Q, hb, r, rl, q => by
    cases ds with
    | nil =>
      simp only [bindVs, Option.some.injEq] at hb
      subst hb
      simp only [Rps] at r
      unfold gsOf gNil
      exact ⟨r, q σ rl fun _ => rfl⟩
    | cons _ _ => simp [bindVs] at hb
  | t :: ts, ds, ws, ρ, ρ', σ, Q, hb, r, rl, q => by
    cases ds with
    | nil => simp [bindVs] at hb
    | cons d ds =>
      simp only [bindVs] at hb
      cases e : bindV t d ρ with
      | none => rw [e] at hb; cases hb
      | some ρ1 =>
        rw [e] at hb
        simp only [Rps] at r
        obtain ⟨v, ws', rfl, r1, r2⟩ := r
        unfold gsOf gCons
        refine ⟨v, ws', rfl, g_run vs t d v ρ ρ1 σ _ e r1 rl fun σ1 rl1 w1 => gs_run vs ts ds ws' ρ1 ρ' σ1 Q hb r2 rl1 fun σ2 rl2 w2 => q σ2 rl2 fun hi => ?_⟩
        simp only [inTs, Bool.and_eq_true] at hi
        rw [w2 hi.2, w1 hi.1]
end
end
abbrev TIv := VS → Own → (List D → Own → Prop) → Prop
/-- J yields ds, whatever happens meanwhile to what is owned -/
structure ItOk (K : PySem.W.Frag) (Z : Addr → Prop) (ds : List D) (J : It) (H0 : Hp) (S0 : Own) : Prop where
  go : ∀ i H S Z', Stp H0 S0 Z H S Z' → Sim K H S Z' → i < ds.length → J.go i H
  yld : ∀ i H S Z' x H' d, Stp H0 S0 Z H S Z' → Sim K H S Z' → ds[i]? = some d → J.yld i H x H' → Ext H S H' S ∧ Sim K H' S Z' ∧ Rp K H' S Z' d x
  stop : ∀ i H S Z', Stp H0 S0 Z H S Z' → Sim K H S Z' → i = ds.length → J.stop i H
def upI (K : PySem.W.Frag) (T : TIv) : TI := fun σ H R => ∃ Z ρ S Qv, Sim K H S Z ∧ RpL K H S Z ρ σ ∧ T ρ S Qv ∧
  ∀ ds J H' S', Ext H S H' S' → Sim K H' S' Z → ItOk K Z ds J H' S' → Qv ds S' → R J H'
theorem Stp.ext {H H1 H2 : Hp} {S S1 S2 : Own} {Z Z1 : Addr → Prop} (a : Stp H S Z H1 S1 Z1) (b : Ext H1 S1 H2 S2) : Stp H S Z H2 S2 Z1 := fun c o h n i =>
  let ⟨h1, n1, z1⟩ := a c o h n i; ⟨(b c o h1 n1).1, (b c o h1 n1).2, z1⟩
theorem Stp.refl {H : Hp} {S : Own} {Z : Addr → Prop} : Stp H S Z H S Z := fun _ _ h n _ => ⟨h, n, fun z => z⟩
def forV (t : Tg) (Tb : TSv) (Dv : EndsV) : List D → VS → Own → Prop
  | [], ρ, S => Dv.nx ρ S
  | d :: ds, ρ, S => match bindV t d ρ with
    | some ρ2 => Tb { nx := forV t Tb Dv ds, ct := forV t Tb Dv ds, bk := Dv.nx, rt := Dv.rt } ρ2 S
    | none => False
def tvFor (Ti : TIv) (t : Tg) (Tb : TSv) : TSv := fun Dv ρ S => Ti ρ S fun ds S1 => forV t Tb Dv ds ρ S1
def compV (t : Tg) (Tt : TTv) (Te : TEv) (ρw : VS) : List D → Own → (List D → Own → Prop) → Prop
  | [], S, Q => Q [] S
  | d :: ds, S, Q => match bindV t d ρw with
    | some ρ2 => Tt ρ2 S fun b S3 => if b = true then Te ρ2 S3 fun y S4 => compV t Tt Te ρw ds S4 fun ys S5 => Q (y :: ys) S5 else compV t Tt Te ρw ds S3 Q
    | none => False
def tvLc (Ti : TIv) (t : Tg) (Tt : TTv) (Te : TEv) (vs : List Nat) : TEv := fun ρ S Q => Ti ρ S fun ds S1 => ds.length ≤ sizeLine ∧ compV t Tt Te (wip ρ vs) ds S1 fun ys S2 => Q (.lst ys) S2
def tvLcO (Ti : TIv) (t : Tg) (Tt : TTv) (Te : TEv) (vs : List Nat) : TEv := fun ρ S Q => Ti ρ S fun ds S1 => ds.length ≤ sizeLine ∧ compV t Tt Te (wip ρ vs) ds S1 fun ys S2 => ∀ p, S2 p = none → Q (.ref p) (ust S2 p (.lst ys))
def whileV (Tc : TTv) (Tb : TSv) (Dv : EndsV) : Nat → VS → Own → Prop
  | 0, _, _ => False
  | n + 1, ρ, S => Tc ρ S fun b S1 => if b = true then Tb { nx := whileV Tc Tb Dv n, ct := whileV Tc Tb Dv n, bk := Dv.nx, rt := Dv.rt } ρ S1 else Dv.nx ρ S1
def tvWhile (Tc : TTv) (Tb : TSv) : TSv := fun Dv ρ S => ∃ n, whileV Tc Tb Dv n ρ S
def tvNext : TSv := fun Dv ρ S => Dv.nx ρ S
def tvSeq (T U : TSv) : TSv := fun Dv ρ S => T { nx := U Dv, rt := Dv.rt, bk := Dv.bk, ct := Dv.ct } ρ S
def tvSet (i : Nat) (T : TEv) : TSv := fun Dv ρ S => T ρ S fun d S1 => Dv.nx (sat ρ i d) S1
def tvBind (t : Tg) (T : TEv) : TSv := fun Dv ρ S => T ρ S fun d S1 => match bindV t d ρ with
  | some ρ2 => Dv.nx ρ2 S1
  | none => False
def tvDrop (T : TEv) : TSv := fun Dv ρ S => T ρ S fun _ S1 => Dv.nx ρ S1
def tvRet (T : TEv) : TSv := fun Dv ρ S => T ρ S Dv.rt
def tvIf (T : TTv) (U V : TSv) : TSv := fun Dv ρ S => T ρ S fun b S1 => if b = true then U Dv ρ S1 else V Dv ρ S1
def tvNever : TSv := fun _ _ _ => False
section
variable {X : Cx}
theorem s_nil : PSs X [] (upS X.K tvNext) := pss_imp pss_nil fun E σ H ⟨Z, ρ, S, Dv, m, r, h, b⟩ => b.nx ρ σ H S .refl m r h
theorem s_one {st : Stmt} {T : TSv} (h : PS X st (upS X.K T)) : PSs X [st] (upS X.K T) := pss_one h
theorem s_cons {st : Stmt} {rest : List Stmt} {T U : TSv} (h1 : PS X st (upS X.K T)) (h2 : PSs X rest (upS X.K U)) : PSs X (st :: rest) (upS X.K (tvSeq T U)) :=
  pss_imp (pss_cons h1 h2) fun E σ H ⟨Z, ρ, S, Dv, m, r, h, b⟩ => ⟨Z, ρ, S, _, m, r, h, ⟨fun ρ1 σ1 H1 S1 e1 m1 r1 h1 => ⟨Z, ρ1, S1, Dv, m1, r1, h1, b.ext e1⟩, b.rt, b.bk, b.ct⟩⟩
theorem s_never {st : Stmt} : PS X st (upS X.K tvNever) := ps_imp ps_never fun E σ H ⟨Z, ρ, S, Dv, m, r, h, b⟩ => h
theorem s_expr {e : Expr} {pos : Pos} {T : TEv} (he : PE X e (upE X.K T)) (hs : swapsWith e none pos.line X.env = pure false := by rfl) : PS X (.Expr e pos) (upS X.K (tvDrop T)) :=
  ps_imp (ps_expr he hs) fun E σ H ⟨Z, ρ, S, Dv, m, r, h, b⟩ => ⟨Z, ρ, S, _, m, r, h, fun d v H1 S1 e1 m1 _ h1 => b.nx ρ σ H1 S1 e1 m1 (r.ext e1) h1⟩
theorem s_ret {e : Expr} {pos : Pos} {T : TEv} (he : PE X e (upE X.K T)) : PS X (.Return (some e) pos) (upS X.K (tvRet T)) :=
  ps_imp (ps_ret he) fun E σ H ⟨Z, ρ, S, Dv, m, r, h, b⟩ => ⟨Z, ρ, S, _, m, r, h, fun d v H1 S1 e1 m1 r1 h1 => b.rt d v H1 S1 e1 m1 r1 h1⟩
theorem s_if {c : Expr} {p q : List Stmt} {pos : Pos} {T : TTv} {U V : TSv} (hc : PT X c (upT X.K T)) (ha : PSs X p (upS X.K U)) (hb : PSs X q (upS X.K V)) : PS X (.If c p q pos) (upS X.K (tvIf T U V)) :=
  ps_imp (ps_if hc ha hb) fun E σ H ⟨Z, ρ, S, Dv, m, r, h, b⟩ => ⟨Z, ρ, S, _, m, r, h, fun k H1 S1 e1 m1 h1 => by
    cases k with
    | true =>
      simp only [if_true] at h1 ⊢
      exact ⟨Z, ρ, S1, Dv, m1, r.ext e1, h1, b.ext e1⟩
    | false =>
      simp only [Bool.false_eq_true, if_false] at h1 ⊢
      exact ⟨Z, ρ, S1, Dv, m1, r.ext e1, h1, b.ext e1⟩⟩
theorem s_set {i : Nat} {x : Str} {e : Expr} {T : TEv} {pos pos' : Pos} (hN : X.N.Nodup) (hi : X.N[i]? = some x) (hx : Loc X.env.scope x) (he : PE X e (upE X.K T)) (hs : swapsWith e (some (.Name x pos')) pos.line X.env = pure false := by rfl)
    (hf : X.fn x = true ∨ X.env.scope.names.lookup x = some .local := by first | exact .inl rfl | exact .inr rfl | assumption) : PS X (.Assign [.Name x pos'] e pos) (upS X.K (tvSet i T)) :=
  ps_imp (ps_set hN hi hx he hs hf) fun E σ H ⟨Z, ρ, S, Dv, m, r, h, b⟩ => ⟨Z, ρ, S, _, m, r, h, fun d v H1 S1 e1 m1 r1 h1 => b.nx _ _ H1 S1 e1 m1 ((r.ext e1).set r1) h1⟩
theorem s_bind {t : Tg} {tg e : Expr} {T : TEv} {pos : Pos} (h : PS X (.Assign [tg] e pos) (tAsg (upE X.K T) (gOf X.K t))) : PS X (.Assign [tg] e pos) (upS X.K (tvBind t T)) :=
  ps_imp h fun E σ H ⟨Z, ρ, S, Dv, m, r, h, b⟩ => ⟨Z, ρ, S, _, m, r, h, fun d v H1 S1 e1 m1 r1 h1 => by
    cases eb : bindV t d ρ with
    | none => rw [eb] at h1; exact h1.elim
    | some ρ2 =>
      rw [eb] at h1
      exact g_run [] t d v ρ ρ2 σ _ eb r1 (r.ext e1) fun σ2 r2 _ => b.nx _ _ H1 S1 e1 m1 r2 h1⟩
theorem s_while {c : Expr} {body : List Stmt} {pos : Pos} {Tc : TTv} {Tb : TSv} (hp : PassesOwn (model X.prog X.w) X.A X.env X.xe) (hc : PT X c (upT X.K Tc)) (hb : PSs X body (upS X.K Tb)) : PS X (.While c body [] pos) (upS X.K (tvWhile Tc Tb)) :=
  ps_imp (ps_while hp hc hb) fun E σ H ⟨Z, ρ, S, Dv, m, r, ⟨n, h⟩, b⟩ => by
    refine ⟨fun k σ' H' => ∃ ρ' S', Ext H S H' S' ∧ Sim X.K H' S' Z ∧ RpL X.K H' S' Z ρ' σ' ∧ whileV Tc Tb Dv k ρ' S', ⟨n, ρ, S, .refl, m, r, h⟩, fun k σ1 H1 ⟨ρ1, S1, e1, m1, r1, h1⟩ => ?_⟩
    cases k with
    | zero => exact h1.elim
    | succ k =>
      refine ⟨Z, ρ1, S1, _, m1, r1, h1, fun q H2 S2 e2 m2 h2 => ?_⟩
      cases q with
      | true =>
        simp only [if_true] at h2 ⊢
        exact ⟨fun σ' H' => ∃ ρ' S', Ext H S H' S' ∧ Sim X.K H' S' Z ∧ RpL X.K H' S' Z ρ' σ' ∧ whileV Tc Tb Dv k ρ' S', fun σ' H' w => ⟨k, Nat.lt_succ_self k, w⟩,
          Z, ρ1, S2, _, m2, r1.ext e2, h2, ⟨fun ρ3 σ3 H3 S3 e3 m3 r3 h3 => ⟨ρ3, S3, (e1.trans e2).trans e3, m3, r3, h3⟩, fun d v H3 S3 e3 m3 r3 h3 => b.rt d v H3 S3 ((e1.trans e2).trans e3) m3 r3 h3,
            fun ρ3 σ3 H3 S3 e3 m3 r3 h3 => b.nx ρ3 σ3 H3 S3 ((e1.trans e2).trans e3) m3 r3 h3, fun ρ3 σ3 H3 S3 e3 m3 r3 h3 => ⟨ρ3, S3, (e1.trans e2).trans e3, m3, r3, h3⟩⟩⟩
      | false =>
        simp only [Bool.false_eq_true, if_false] at h2 ⊢
        exact b.nx _ _ H2 S2 (e1.trans e2) m2 (r1.ext e2) h2
theorem s_for {t : Tg} {tg iter : Expr} {body : List Stmt} {pos : Pos} {Ti : TIv} {Tb : TSv} (hp : PassesOwn (model X.prog X.w) X.A X.env X.xe) (hc : X.calm = true) (hi : PI X tg iter (upI X.K Ti)) (hg : PG X tg (gOf X.K t)) (hb : PSs X body (upS X.K Tb))
    (hs : ∀ x, foldedSetIterable iter X.env x = pure x := by intro _; rfl) : PS X (.For tg iter body [] pos) (upS X.K (tvFor Ti t Tb)) :=
  ps_imp (ps_for hp hc hi hg hb hs) fun E σ H ⟨Z, ρ, S, Dv, m, r, h, b⟩ => by
    refine ⟨Z, ρ, S, _, m, r, h, fun ds J H1 S1 e1 m1 it h1 => ?_⟩
    refine ⟨fun i k σ' H' => i + k = ds.length ∧ ∃ ρ' S', Ext H1 S1 H' S' ∧ Sim X.K H' S' Z ∧ RpL X.K H' S' Z ρ' σ' ∧ forV t Tb Dv (ds.drop i) ρ' S', ⟨ds.length, by omega, ρ, S1, .refl, m1, r.ext e1, h1⟩, fun i k σ2 H2 ⟨hk, ρ2, S2, e2, m2, r2, h2⟩ => ?_⟩
    by_cases hl : i < ds.length
    · have hd : ds.drop i = ds[i] :: ds.drop (i + 1) := List.drop_eq_getElem_cons hl
      rw [hd] at h2
      simp only [forV] at h2
      cases eb : bindV t ds[i] ρ2 with
      | none => rw [eb] at h2; exact h2.elim
      | some ρ3 =>
        rw [eb] at h2
        refine .inr ⟨it.go i H2 S2 Z e2.stp m2 hl, fun σ' H' => ∃ ρ' S', Ext H1 S1 H' S' ∧ Sim X.K H' S' Z ∧ RpL X.K H' S' Z ρ' σ' ∧ forV t Tb Dv (ds.drop (i + 1)) ρ' S', fun σ' H' w => ⟨k - 1, by omega, by omega, w⟩, fun x H3 hy => ?_⟩
        obtain ⟨e3, m3, r3⟩ := it.yld i H2 S2 Z x H3 ds[i] e2.stp m2 (List.getElem?_eq_getElem hl) hy
        have e13 : Ext H1 S1 H3 S2 := e2.trans e3
        refine g_run [] t ds[i] x ρ2 ρ3 σ2 _ eb r3 (r2.ext e3) fun σ4 r4 _ => ?_
        exact ⟨Z, ρ3, S2, _, m3, r4, h2, ⟨fun ρ5 σ5 H5 S5 e5 m5 r5 h5 => ⟨ρ5, S5, e13.trans e5, m5, r5, h5⟩, fun d v H5 S5 e5 m5 r5 h5 => b.rt d v H5 S5 ((e1.trans e13).trans e5) m5 r5 h5,
          fun ρ5 σ5 H5 S5 e5 m5 r5 h5 => b.nx ρ5 σ5 H5 S5 ((e1.trans e13).trans e5) m5 r5 h5, fun ρ5 σ5 H5 S5 e5 m5 r5 h5 => ⟨ρ5, S5, e13.trans e5, m5, r5, h5⟩⟩⟩
    · have hd : ds.drop i = [] := List.drop_eq_nil_of_le (by omega)
      rw [hd] at h2
      exact .inl ⟨it.stop i H2 S2 Z e2.stp m2 (by omega), b.nx _ _ H2 S2 (e1.trans e2) m2 r2 h2⟩
end
end VL
namespace VL
open PySem PySem.Spec PyProof.Rows L2
section
variable {K : PySem.W.Frag}
def zplus (Z : Addr → Prop) (p : Addr) : Addr → Prop := fun a => Z a ∨ a = p
theorem stp_plus {H H1 : Hp} {S S1 : Own} {Z : Addr → Prop} {p : Addr} (hp : H p = none) (e : Ext H S H1 S1) : Stp H S Z H1 S1 (zplus Z p) := fun a o h n i =>
  ⟨(e a o h n).1, (e a o h n).2, fun z q => q.elim z fun q => (ne_of_none h hp) q⟩
theorem stp_less {H : Hp} {S : Own} {Z : Addr → Prop} {p : Addr} : Stp H S (zplus Z p) H S Z := fun a o h n i => ⟨h, n, fun z q => z (.inl q)⟩
theorem stp_hid {H : Hp} {S : Own} {Z : Addr → Prop} {p : Addr} {vs ws : List V} (hp : H p = some (.lst vs)) : Stp H S (zplus Z p) (upd H p (.lst ws)) S (zplus Z p) := fun a o h n i => by
  have z : a ≠ p := fun z => by
    subst z
    rcases i with i | i
    · rw [hp] at h; cases h; exact i
    · exact i (.inr rfl)
  exact ⟨by rw [upd_ne z]; exact h, n, fun q => q⟩
theorem sim_hid {H : Hp} {S : Own} {Z : Addr → Prop} {p : Addr} {vs ws : List V} (m : Sim K H S (zplus Z p)) (hp : H p = some (.lst vs)) : Sim K (upd H p (.lst ws)) S (zplus Z p) :=
  ⟨fun a ob e => by
    obtain ⟨z, ho, q, r⟩ := m.own a ob e
    have zz : a ≠ p := fun e => z (.inr e)
    exact ⟨z, ho, by rw [upd_ne zz]; exact q, r.stp (stp_hid hp)⟩, fun a z => by
    by_cases e : a = p
    · subst e; rw [upd_same]; exact fun q => nomatch q
    · rw [upd_ne e]; exact m.hid a z⟩
theorem ext_hid {H H1 : Hp} {S S1 : Own} {p : Addr} {ws : List V} (hp : H p = none) (e : Ext H S H1 S1) : Ext H S (upd H1 p (.lst ws)) S1 := fun a o h n =>
  ⟨by rw [upd_ne (ne_of_none h hp)]; exact (e a o h n).1, (e a o h n).2⟩
theorem sim_less {H : Hp} {S : Own} {Z : Addr → Prop} {p : Addr} (m : Sim K H S (zplus Z p)) : Sim K H S Z :=
  ⟨fun a ob e => by
    obtain ⟨z, ho, q, r⟩ := m.own a ob e
    exact ⟨fun y => z (.inl y), ho, q, r.stp stp_less⟩, fun a z => m.hid a (.inl z)⟩
/-- what a comprehension's reading asks, whatever becomes of its list -/
theorem lc_of {t : Tg} {Ti : TIv} {Tt : TTv} {Te : TEv} {vs : List Nat} {tt : TT} {σ : L2.St} {H : Hp} {Q : VK} (ht : inT vs t = true) (htt : ∀ σ H Q, upT K Tt σ H Q → tt σ H Q)
    {Z : Addr → Prop} {ρ : VS} {S : Own} {Qf : List D → Own → Prop} (m : Sim K H S Z) (r : RpL K H S Z ρ σ)
    (h : Ti ρ S fun ds S1 => ds.length ≤ sizeLine ∧ compV t Tt Te (wip ρ vs) ds S1 Qf)
    (b : ∀ ys ws p H' S', Ext H S H' S' → (∀ a o, H a = some o → S a = none → a ≠ p) → Sim K H' S' (zplus Z p) → H' p = some (.lst ws) → S' p = none → ¬ Z p → Rps K H' S' (zplus Z p) ys ws → Qf ys S' → Q (.ref p) H') :
    tLc (upI K Ti) (gOf K t) tt (upE K Te) vs σ H Q := by
  refine ⟨Z, ρ, S, _, m, r, h, fun ds J H1 S1 e1 m1 it h1 p hp => ?_⟩
  obtain ⟨hz, h1⟩ := h1
  have r1 : RpL K H1 S1 Z ρ σ := r.ext e1
  have m0 : Sim K (upd H1 p (.lst [])) S1 (zplus Z p) := by
    refine ⟨fun a ob e => ?_, fun a z => ?_⟩
    · obtain ⟨z, ho, q, r⟩ := m1.own a ob e
      have zz : a ≠ p := ne_of_none q hp
      exact ⟨fun y => y.elim z zz, ho, by rw [upd_ne zz]; exact q, r.stp (stp_plus hp (ext_new m1 hp))⟩
    · by_cases e : a = p
      · subst e; rw [upd_same]; exact fun q => nomatch q
      · rw [upd_ne e]; exact z.elim (m1.hid a) fun q => absurd q e
  refine ⟨fun i k H2 => i + k = ds.length ∧ ∃ S2 acc ws, Ext H1 S1 H2 S2 ∧ Sim K H2 S2 (zplus Z p) ∧ H2 p = some (.lst ws) ∧ Rps K H2 S2 (zplus Z p) acc ws ∧ acc.length ≤ i ∧ compV t Tt Te (wip ρ vs) (ds.drop i) S2 fun ys S' => Qf (acc ++ ys) S',
    ⟨ds.length, by omega, S1, [], [], ext_new m1 hp, m0, upd_same, rps_nil, Nat.zero_le _, by simpa using h1⟩, fun i k H2 ⟨hk, S2, acc, ws, e2, m2, hp2, ra, hla, h2⟩ => ?_⟩
  have st2 : Stp H1 S1 Z H2 S2 (zplus Z p) := stp_plus hp e2
  by_cases hl : i < ds.length
  · have hd : ds.drop i = ds[i] :: ds.drop (i + 1) := List.drop_eq_getElem_cons hl
    rw [hd] at h2
    simp only [compV] at h2
    cases eb : bindV t ds[i] (wip ρ vs) with
    | none => rw [eb] at h2; exact h2.elim
    | some ρ3 =>
      rw [eb] at h2
      refine .inr ⟨it.go i H2 S2 _ st2 m2 hl, fun H' => ∃ S2 acc ws, Ext H1 S1 H' S2 ∧ Sim K H' S2 (zplus Z p) ∧ H' p = some (.lst ws) ∧ Rps K H' S2 (zplus Z p) acc ws ∧ acc.length ≤ i + 1 ∧ compV t Tt Te (wip ρ vs) (ds.drop (i + 1)) S2 fun ys S' => Qf (acc ++ ys) S',
        fun H' w => ⟨k - 1, by omega, by omega, w⟩, fun x H3 hy => ?_⟩
      obtain ⟨e3, m3, r3⟩ := it.yld i H2 S2 _ x H3 ds[i] st2 m2 (List.getElem?_eq_getElem hl) hy
      have n2 : S2 p = none := by
        cases q : S2 p with
        | none => rfl
        | some ob => exact absurd (.inr rfl) (m2.own p ob q).1
      have hp3 : H3 p = some (.lst ws) := (e3 p _ hp2 n2).1
      have rw3 : RpL K H3 S2 (zplus Z p) (wip ρ vs) (wipe σ vs) := ((r1.wipe vs).stp st2).ext e3
      refine g_run vs t ds[i] x (wip ρ vs) ρ3 (wipe σ vs) _ eb r3 rw3 fun σ4 r4 hw => ⟨?_, ?_⟩
      · rw [hw ht]
        apply List.ext_getElem?
        intro j
        rw [wipe_at, wipe_at, wipe_length]
        by_cases hj : j ∈ vs ∧ j < σ.length
        · rw [if_pos hj, if_pos hj]
        · rw [if_neg hj, if_neg hj]
      · refine htt _ _ _ ⟨_, ρ3, S2, _, m3, r4, h2, fun c H5 S5 e5 m5 h5 => ?_⟩
        have hp5 : H5 p = some (.lst ws) := (e5 p _ hp3 n2).1
        have ra5 : Rps K H5 S5 (zplus Z p) acc ws := ra.ext (e3.trans e5)
        cases c with
        | true =>
          simp only [if_true] at h5 ⊢
          refine ⟨_, ρ3, S5, _, m5, r4.ext e5, h5, fun y v H6 S6 e6 m6 r6 h6 => ?_⟩
          have n5 : S5 p = none := (e5 p _ hp3 n2).2
          have hp6 : H6 p = some (.lst ws) := (e6 p _ hp5 n5).1
          have lw : acc.length = ws.length := ra.len
          refine ⟨ws, hp6, by omega, S6, acc ++ [y], ws ++ [v], ?_, sim_hid m6 hp6, upd_same, ?_, ?_, ?_⟩
          · exact ext_hid hp (((e2.trans e3).trans e5).trans e6)
          · exact Rps.stp (stp_hid hp6) _ _ (rps_append (ra5.ext e6) (rps_cons r6 rps_nil))
          · rw [List.length_append]; simp; omega
          · simpa only [List.append_assoc, List.singleton_append] using h6
        | false =>
          simp only [Bool.false_eq_true, if_false] at h5 ⊢
          exact ⟨S5, acc, ws, (e2.trans e3).trans e5, m5, hp5, ra5, by omega, h5⟩
  · have hd : ds.drop i = [] := List.drop_eq_nil_of_le (by omega)
    rw [hd] at h2
    simp only [compV, List.append_nil] at h2
    have n2 : S2 p = none := by
      cases q : S2 p with
      | none => rfl
      | some ob => exact absurd (.inr rfl) (m2.own p ob q).1
    exact .inl ⟨it.stop i H2 S2 _ st2 m2 (by omega), b acc ws p H2 S2 (e1.trans e2) (fun a o h n => ne_of_none (e1 a o h n).1 hp) m2 hp2 n2 (m1.nz hp) ra h2⟩
end
section
variable {X : Cx}
def ttYes : TTv := fun _ S Q => Q true S
theorem ts_nil : PTs X [] (upT X.K ttYes) := pts_imp pts_nil fun σ H Q ⟨Z, ρ, S, Qv, m, r, h, b⟩ => b true H S .refl m h
theorem ts_one {c : Expr} {T : TTv} (h : PT X c (upT X.K T)) : PTs X [c] (upT X.K T) := pts_one h
theorem v_lc {t : Tg} {elt tg iter : Expr} {ifs : List Expr} {scope : Scope} {own : List (Str × Nat)} {pos : Pos} {Ti : TIv} {Tt : TTv} {Te : TEv} (hc : X.calm = true) (hN : X.N.Nodup) (hi : PI X tg iter (upI X.K Ti)) (ok : BlkOk X.N X.env.scope scope own)
    (hg : ∀ (s : Shared) (H : Hp) (C : Addr) (cl : List (Str × Addr)) (fp : List Addr), PG (X.blk s H scope (compEnvC scope cl C X.env) fp) tg (gOf X.K t)) (ht : ∀ (s : Shared) (H : Hp) (C : Addr) (cl : List (Str × Addr)) (fp : List Addr), PTs (X.blk s H scope (compEnvC scope cl C X.env) fp) ifs (upT X.K Tt))
    (he : ∀ (s : Shared) (H : Hp) (C : Addr) (cl : List (Str × Addr)) (fp : List Addr), PE (X.blk s H scope (compEnvC scope cl C X.env) fp) elt (upE X.K Te)) (hin : inT (own.map (·.2)) t = true := by rfl) (hs : ∀ x, foldedSetIterable iter X.env x = pure x := by intro _; rfl) :
    PE X (.ListComp elt [⟨tg, iter, ifs, 0⟩] scope pos) (upE X.K (tvLc Ti t Tt Te (own.map (·.2)))) :=
  pe_imp (pe_lc hc hN hi ok hg ht he hs) fun σ H Q ⟨Z, ρ, S, Qv, m, r, h, b⟩ => lc_of hin (fun _ _ _ h => h) m r h fun ys ws p H' S' e _ m' hp n z rs q =>
    b _ _ H' S' e (sim_less m') (rp_lst hp n z (Rps.stp stp_less _ _ rs)) q
end
end VL
namespace VL
open PySem PySem.Spec PyProof.Rows L2
def vw (S : Own) : D → D
  | .ref a => match S a with
    | some (.lst xs) => .lst xs
    | _ => .ref a
  | d => d
def seqD : D → Option (List D)
  | .tup xs => some xs
  | .lst xs => some xs
  | .scr xs => some xs
  | .tuq xs => some xs
  | _ => none
mutual
def toP : D → Option PyData
  | .non => some .none
  | .bl b => some (.bool b)
  | .int i => some (.int i)
  | .str x => some (.str x)
  | .tup xs => match toPs xs with
    | some ps => some (.tuple ps)
    | none => none
  | .lst xs => match toPs xs with
    | some ps => some (.list ps)
    | none => none
  | .scr xs => match toPs xs with
    | some ps => some (.list ps)
    | none => none
  | .tuq xs => match toPs xs with
    | some ps => some (.tuple ps)
    | none => none
  | _ => none
def toPs : List D → Option (List PyData)
  | [] => some []
  | d :: ds => match toP d, toPs ds with
    | some p, some ps => some (p :: ps)
    | _, _ => none
end
mutual
theorem toP_plain : ∀ (d : D) (p : PyData), toP d = some p → p.plain = true
  | .non, p, h => by simp only [toP, Option.some.injEq] at h; subst h; rfl
  | .bl b, p, h => by simp only [toP, Option.some.injEq] at h; subst h; rfl
  | .int i, p, h => by simp only [toP, Option.some.injEq] at h; subst h; rfl
  | .str x, p, h => by simp only [toP, Option.some.injEq] at h; subst h; rfl
  | .ty n, p, h => by simp [toP] at h
  | .ref a, p, h => by simp [toP] at h
  | .tup xs, p, h => by
    simp only [toP] at h
    cases e : toPs xs with
    | none => rw [e] at h; cases h
    | some ps => rw [e] at h; cases h; simp only [PyData.plain]; exact toPs_plain xs ps e
  | .lst xs, p, h => by
    simp only [toP] at h
    cases e : toPs xs with
    | none => rw [e] at h; cases h
    | some ps => rw [e] at h; cases h; simp only [PyData.plain]; exact toPs_plain xs ps e
  | .scr xs, p, h => by
    simp only [toP] at h
    cases e : toPs xs with
    | none => rw [e] at h; cases h
    | some ps => rw [e] at h; cases h; simp only [PyData.plain]; exact toPs_plain xs ps e
  | .tuq xs, p, h => by
    simp only [toP] at h
    cases e : toPs xs with
    | none => rw [e] at h; cases h
    | some ps => rw [e] at h; cases h; simp only [PyData.plain]; exact toPs_plain xs ps e
theorem toPs_plain : ∀ (ds : List D) (ps : List PyData), toPs ds = some ps → PyData.plainAll ps = true
  | [], ps, h => by simp only [toPs, Option.some.injEq] at h; subst h; rfl
  | d :: ds, ps, h => by
    simp only [toPs] at h
    cases e1 : toP d with
    | none => rw [e1] at h; simp at h
    | some p =>
      cases e2 : toPs ds with
      | none => rw [e1, e2] at h; simp at h
      | some qs =>
        rw [e1, e2] at h; simp only [Option.some.injEq] at h; subst h
        simp only [PyData.plainAll, Bool.and_eq_true]
        exact ⟨toP_plain d p e1, toPs_plain ds qs e2⟩
end
section
variable {K : PySem.W.Frag} {H : Hp} {S : Own} {Z : Addr → Prop}
mutual
theorem dp_of : ∀ (d : D) (p : PyData) (v : V), toP d = some p → Rp K H S Z d v → Dp K H v p
  | .non, p, v, h, r => by simp only [toP, Option.some.injEq] at h; subst h; simp only [Rp] at r; subst r; exact .non
  | .bl b, p, v, h, r => by simp only [toP, Option.some.injEq] at h; subst h; simp only [Rp] at r; subst r; exact .bl b
  | .int i, p, v, h, r => by simp only [toP, Option.some.injEq] at h; subst h; simp only [Rp] at r; subst r; exact .int i
  | .str x, p, v, h, r => by simp only [toP, Option.some.injEq] at h; subst h; simp only [Rp] at r; subst r; exact .str x
  | .ty n, p, v, h, r => by simp [toP] at h
  | .ref a, p, v, h, r => by simp [toP] at h
  | .tup xs, p, v, h, r => by
    simp only [toP] at h
    cases e : toPs xs with
    | none => rw [e] at h; cases h
    | some ps =>
      rw [e] at h; cases h
      simp only [Rp] at r
      obtain ⟨a, vs, rfl, h1, h2⟩ := r
      exact .tup (sqT_of h1) (dps_of xs ps vs e h2)
  | .lst xs, p, v, h, r => by
    simp only [toP] at h
    cases e : toPs xs with
    | none => rw [e] at h; cases h
    | some ps =>
      rw [e] at h; cases h
      simp only [Rp] at r
      obtain ⟨a, vs, rfl, h1, _, _, h2⟩ := r
      exact .lst (.of h1) (dps_of xs ps vs e h2)
  | .scr xs, p, v, h, r => by
    simp only [toP] at h
    cases e : toPs xs with
    | none => rw [e] at h; cases h
    | some ps =>
      rw [e] at h; cases h
      simp only [Rp] at r
      obtain ⟨a, vs, rfl, h1, h2⟩ := r
      exact .lst (h1.elim (fun q => .inl q.1) .inr) (dps_of xs ps vs e h2)
  | .tuq xs, p, v, h, r => by
    simp only [toP] at h
    cases e : toPs xs with
    | none => rw [e] at h; cases h
    | some ps =>
      rw [e] at h; cases h
      simp only [Rp] at r
      obtain ⟨a, vs, rfl, h1, h2⟩ := r
      exact .tup (.inl h1.1) (dps_of xs ps vs e h2)
theorem dps_of : ∀ (ds : List D) (ps : List PyData) (vs : List V), toPs ds = some ps → Rps K H S Z ds vs → DpAll K H vs ps
  | [], ps, vs, h, r => by simp only [toPs, Option.some.injEq] at h; subst h; simp only [Rps] at r; subst r; exact .nil
  | d :: ds, ps, vs, h, r => by
    simp only [toPs] at h
    cases e1 : toP d with
    | none => rw [e1] at h; simp at h
    | some p =>
      cases e2 : toPs ds with
      | none => rw [e1, e2] at h; simp at h
      | some qs =>
        rw [e1, e2] at h; simp only [Option.some.injEq] at h; subst h
        simp only [Rps] at r
        obtain ⟨v, t, rfl, r1, r2⟩ := r
        exact .cons (dp_of d p v e1 r1) (dps_of ds qs t e2 r2)
end
theorem vw_of (m : Sim K H S Z) {d : D} {v : V} (r : Rp K H S Z d v) : (vw S d = d) ∨ (∃ a xs vs, d = .ref a ∧ v = .ref a ∧ S a = some (.lst xs) ∧ vw S d = .lst xs ∧ H a = some (.lst vs) ∧ Rps K H S Z xs vs) := by
  cases d with
  | ref a =>
    cases e : S a with
    | none => left; simp only [vw, e]
    | some o =>
      cases o with
      | lst xs =>
        obtain ⟨vs, h1, h2⟩ := m.lst e
        simp only [Rp] at r
        exact .inr ⟨a, xs, vs, rfl, r, e, by simp only [vw, e], h1, h2⟩
      | dK _ => left; simp only [vw, e]
      | dT _ => left; simp only [vw, e]
      | ins _ _ => left; simp only [vw, e]
      | kS _ _ => left; simp only [vw, e]
      | tb _ _ => left; simp only [vw, e]
      | exc _ => left; simp only [vw, e]
  | _ => left; rfl
theorem dp_vw (m : Sim K H S Z) {d : D} {v : V} {p : PyData} (r : Rp K H S Z d v) (h : toP (vw S d) = some p) : Dp K H v p := by
  rcases vw_of m r with e | ⟨a, xs, vs, rfl, rfl, e, ev, h1, h2⟩
  · rw [e] at h; exact dp_of d p v h r
  · rw [ev] at h
    simp only [toP] at h
    cases e2 : toPs xs with
    | none => rw [e2] at h; cases h
    | some ps => rw [e2] at h; cases h; exact .lst (.of h1) (dps_of xs ps vs e2 h2)
/-- a tuple or a list that is read -/
theorem seq_of (m : Sim K H S Z) {d : D} {v : V} {xs : List D} (r : Rp K H S Z d v) (h : seqD (vw S d) = some xs) : ∃ a vs, v = .ref a ∧ (SqL K H a vs ∨ SqT K H a vs) ∧ Rps K H S Z xs vs := by
  rcases vw_of m r with e | ⟨a, ys, vs, rfl, rfl, e, ev, h1, h2⟩
  · rw [e] at h
    cases d <;> simp only [seqD] at h <;> try (cases h)
    · simp only [Rp] at r
      obtain ⟨a, vs, rfl, h1, h2⟩ := r
      exact ⟨a, vs, rfl, .inr (sqT_of h1), h2⟩
    · simp only [Rp] at r
      obtain ⟨a, vs, rfl, h1, _, _, h2⟩ := r
      exact ⟨a, vs, rfl, .inl (.of h1), h2⟩
    · simp only [Rp] at r
      obtain ⟨a, vs, rfl, h1, h2⟩ := r
      exact ⟨a, vs, rfl, .inl (h1.elim (fun q => .inl q.1) .inr), h2⟩
    · simp only [Rp] at r
      obtain ⟨a, vs, rfl, h1, h2⟩ := r
      exact ⟨a, vs, rfl, .inr (.inl h1.1), h2⟩
  · rw [ev] at h
    simp only [seqD, Option.some.injEq] at h; subst h
    exact ⟨a, vs, rfl, .inl (.of h1), h2⟩
/-- a list alone -/
def lstD : D → Option (List D)
  | .lst xs => some xs
  | .scr xs => some xs
  | _ => none
theorem lst_of (m : Sim K H S Z) {d : D} {v : V} {xs : List D} (r : Rp K H S Z d v) (h : lstD (vw S d) = some xs) : ∃ a vs, v = .ref a ∧ SqL K H a vs ∧ Rps K H S Z xs vs := by
  rcases vw_of m r with e | ⟨a, ys, vs, rfl, rfl, e, ev, h1, h2⟩
  · rw [e] at h
    cases d <;> simp only [lstD] at h <;> try (cases h)
    · simp only [Rp] at r
      obtain ⟨a, vs, rfl, h1, _, _, h2⟩ := r
      exact ⟨a, vs, rfl, .of h1, h2⟩
    · simp only [Rp] at r
      obtain ⟨a, vs, rfl, h1, h2⟩ := r
      exact ⟨a, vs, rfl, h1.elim (fun q => .inl q.1) .inr, h2⟩
  · rw [ev] at h
    simp only [lstD, Option.some.injEq] at h; subst h
    exact ⟨a, vs, rfl, .of h1, h2⟩
end
def rvI (C : Int → Int → Prop) (g : Int → Int → D) : R2v := fun x y S Q => match x, y with
  | .int i, .int j => C i j ∧ Q (g i j) S
  | _, _ => False
def rvI0 (g : Int → Int → D) : R2v := fun x y S Q => match x, y with
  | .int i, .int j => Q (g i j) S
  | _, _ => False
def rvAdd : R2v := fun x y S Q => match x, y with
  | .int i, .int j => Q (.int (i + j)) S
  | .str a, .str b => a.length + b.length ≤ sizeLine ∧ Q (.str (a ++ b)) S
  | .tup xs, .tup ys => xs.length + ys.length ≤ sizeLine ∧ Q (.tup (xs ++ ys)) S
  | .lst xs, .lst ys => xs.length + ys.length ≤ sizeLine ∧ Q (.lst (xs ++ ys)) S
  | _, _ => False
section
variable {X : Cx}
theorem opI_of {f : Value → Value → Sem Value} {C : Int → Int → Prop} {g : Int → Int → V} {g' : Int → Int → D} (h : OpR X f (rI C g)) (hg : ∀ i j H S Z, Rp X.K H S Z (g' i j) (g i j)) : OpR X f (up2 X.K (rvI C g')) :=
  opR_imp h fun x y H Q ⟨Z, S, dx, dy, Qv, m, rx, ry, h, b⟩ => by
    cases dx <;> try exact h.elim
    cases dy <;> try exact h.elim
    simp only [Rp] at rx ry
    exact ⟨_, _, rx, ry, h.1, b _ _ H S .refl m (hg _ _ _ _ _) h.2⟩
theorem opI0_of {f : Value → Value → Sem Value} {g : Int → Int → V} {g' : Int → Int → D} (h : OpR X f (rI0 g)) (hg : ∀ i j H S Z, Rp X.K H S Z (g' i j) (g i j)) : OpR X f (up2 X.K (rvI0 g')) :=
  opR_imp h fun x y H Q ⟨Z, S, dx, dy, Qv, m, rx, ry, h, b⟩ => by
    cases dx <;> try exact h.elim
    cases dy <;> try exact h.elim
    simp only [Rp] at rx ry
    exact ⟨_, _, rx, ry, b _ _ H S .refl m (hg _ _ _ _ _) h⟩
abbrev rvSub : R2v := rvI0 fun i j => .int (i - j)
abbrev rvMul : R2v := rvI CMul fun i j => .int (i * j)
abbrev rvDiv : R2v := rvI CDiv fun i j => .int (i / j)
abbrev rvMod : R2v := rvI (fun _ j => 0 < j) fun i j => .int (i % j)
abbrev rvPow : R2v := rvI CPow fun i j => .int (i ^ j.toNat)
abbrev rvLt : R2v := rvI0 fun i j => .bl (decide (i < j))
abbrev rvLe : R2v := rvI0 fun i j => .bl (decide (i ≤ j))
abbrev rvGt : R2v := rvI0 fun i j => .bl (decide (j < i))
abbrev rvGe : R2v := rvI0 fun i j => .bl (decide (j ≤ i))
theorem o_sub : OpR X (binaryOp .Sub) (up2 X.K rvSub) := opI0_of op_sub fun _ _ _ _ _ => by simp only [Rp]
theorem o_mul : OpR X (binaryOp .Mult) (up2 X.K rvMul) := opI_of op_mul fun _ _ _ _ _ => by simp only [Rp]
theorem o_div : OpR X (binaryOp .FloorDiv) (up2 X.K rvDiv) := opI_of op_fdiv fun _ _ _ _ _ => by simp only [Rp]
theorem o_mod : OpR X (binaryOp .Mod) (up2 X.K rvMod) := opI_of op_mod fun _ _ _ _ _ => by simp only [Rp]
theorem o_pow : OpR X (binaryOp .Pow) (up2 X.K rvPow) := opI_of op_pow fun _ _ _ _ _ => by simp only [Rp]
theorem o_lt : OpR X (compareOp .Lt) (up2 X.K rvLt) := opI0_of op_lt fun _ _ _ _ _ => by simp only [Rp]
theorem o_le : OpR X (compareOp .LtE) (up2 X.K rvLe) := opI0_of op_le fun _ _ _ _ _ => by simp only [Rp]
theorem o_gt : OpR X (compareOp .Gt) (up2 X.K rvGt) := opI0_of op_gt fun _ _ _ _ _ => by simp only [Rp]
theorem o_ge : OpR X (compareOp .GtE) (up2 X.K rvGe) := opI0_of op_ge fun _ _ _ _ _ => by simp only [Rp]
/-- t + u, slices, tuple(x), told with the new object -/
def rCatF (K : PySem.W.Frag) : R2 := fun x y H Q => ∃ a b xs ys, x = .ref a ∧ y = .ref b ∧ SqT K H a xs ∧ SqT K H b ys ∧ xs.length + ys.length ≤ sizeLine ∧
  (xs = [] → Q (.ref b) H) ∧ (xs ≠ [] → ys = [] → Q (.ref a) H) ∧ (xs ≠ [] → ys ≠ [] → ∀ p (ob : Obj), ob.dict = none → H p = none → Q (.ref p) (upd H p (.frz ob (.tup (xs ++ ys)))))
theorem op_catF : OpR X (binaryOp .Add) (rCatF X.K) := by
  intro pins s σ H x y v u Q I rx ry h
  obtain ⟨a, b, xs, ys, rfl, rfl, ha, hb, hz, q0, q1, q2⟩ := h
  cases rx
  cases ry
  obtain ⟨its, r1, p1, _⟩ := I.tuple ha
  obtain ⟨its2, r2, p2, _⟩ := I.tuple hb
  by_cases hx : xs = []
  · subst hx
    cases r1
    exact cat_tup0 p1 p2 ⟨.ref b, H, I, rfl, q0 rfl⟩
  · refine HT.cat_tup p1 p2 (fun z => hx (r1.nil_iff.mp z)) (fun z => ⟨.ref a, H, I, rfl, q1 hx (r2.nil_iff.mp z)⟩) (fun z => ?_) (by rw [← r1.length, ← r2.length]; exact hz)
    refine ⟨.ref s.heap.objs.size, _, I.laid (t' := s.toks) (o := .frz { cls := .type "tuple", data := .seq (its ++ its2).toArray } (.tup (xs ++ ys))) (fun b ob q => Heap.get?_push_of_some _ q) (Nat.le_refl _) ?_, rfl, q2 hx (fun w => z (r2.nil_iff.mpr w)) _ _ rfl (I.hok.fresh (Nat.le_refl _))⟩
    exact ⟨Heap.get?_push_size _ rfl, by rw [List.length_append]; exact hz, _, r1.append r2, IsTup.new _ _⟩
def rSlF (K : PySem.W.Frag) : V → Option Int → Option Int → Hp → VK → Prop := fun x lo hi H Q => ∃ a xs, x = .ref a ∧ SqT K H a xs ∧
  (HT.sIx xs.length 0 lo = 0 ∧ HT.sIx xs.length xs.length hi = xs.length → Q (.ref a) H) ∧ (¬ (HT.sIx xs.length 0 lo = 0 ∧ HT.sIx xs.length xs.length hi = xs.length) → ∀ p (ob : Obj), ob.dict = none → H p = none → Q (.ref p) (upd H p (.frz ob (.tup (cutV xs lo hi)))))
theorem sl_tupF : SlR X (rSlF X.K) := by
  intro pins s σ H x v vl vu lo hi sl Q I rx hs pl pu h
  obtain ⟨a, xs, rfl, hx, q1, q2⟩ := h
  cases rx
  obtain ⟨its, r, ht, hz⟩ := I.tuple hx
  have hlen : its.toArray.size = xs.length := by rw [List.size_toArray]; exact r.length.symm
  refine ⟨"tuple", _, PyProof.Rows.slot_tuple_getitem.lookup, ht.typeIs, ?_⟩
  by_cases hw : HT.sIx xs.length 0 lo = 0 ∧ HT.sIx xs.length xs.length hi = xs.length
  · exact getItem_tuple_whole ht hs pl pu (by rw [hlen]; exact hw) ⟨.ref a, H, I, rfl, q1 hw⟩
  · refine HT.getItem_tuple_cut ht hs pl pu (by rw [hlen]; exact hw) ?_ (by rw [hlen]; exact hz)
    rw [hlen]
    refine ⟨.ref s.heap.objs.size, _, I.laid (t' := s.toks) (o := .frz { cls := .type "tuple", data := .seq ((its.toArray.toList.drop (HT.sIx xs.length 0 lo)).take (HT.sIx xs.length xs.length hi - HT.sIx xs.length 0 lo)).toArray } (.tup (cutV xs lo hi))) (fun b ob q => Heap.get?_push_of_some _ q) (Nat.le_refl _) ?_, rfl, q2 hw _ _ rfl (I.hok.fresh (Nat.le_refl _))⟩
    exact ⟨Heap.get?_push_size _ rfl, Nat.le_trans (cutV_length xs lo hi) hz, _, (r.drop (HT.sIx xs.length 0 lo)).take (HT.sIx xs.length xs.length hi - HT.sIx xs.length 0 lo), IsTup.new _ _⟩
theorem call_tuple_ofF : CallR X (.type "tuple") (fun xs H Q => ∃ p ys, xs = [.ref p] ∧ ((SqL X.K H p ys ∧ ∀ l (ob : Obj), ob.dict = none → H l = none → Q (.ref l) (upd H l (.frz ob (.tup ys)))) ∨ (SqT X.K H p ys ∧ Q (.ref p) H))) := by
  intro pins s σ H xs us Q I r h
  obtain ⟨p, ys, rfl, h⟩ := h
  obtain ⟨u, rfl, rx⟩ := vals1 r
  cases rx
  rcases h with ⟨hq, q⟩ | ⟨hq, q⟩
  · obtain ⟨its, r', pl, hz⟩ := I.list hq
    have hlen := r'.length
    refine call_tuple_list pl.isList (fun h' kp => ?_) (by simp only [List.size_toArray] <;> omega)
    have I1 : Inv X pins σ H { s with heap := h' } := I.kept (t' := s.toks) kp
    have I2 : Inv X pins σ (upd H h'.objs.size (.frz { cls := .type "tuple", data := .seq its.toArray } (.tup ys))) { s with heap := h'.push { cls := .type "tuple", data := .seq its.toArray } } :=
      I1.laid (t' := s.toks) (fun b o e => Heap.get?_push_of_some _ e) (Nat.le_refl _) (show ObjOk X.prog X.w _ _ _ (.frz _ (.tup ys)) from ⟨Heap.get?_push_size _ rfl, hz, its, r', IsTup.new _ _⟩)
    exact ⟨.ref h'.objs.size, _, I2, rfl, q _ _ rfl (I1.hok.fresh (Nat.le_refl _))⟩
  · obtain ⟨its, r', pl, hz⟩ := I.tuple hq
    exact call_tuple_same pl ⟨.ref p, H, I, rfl, q⟩
theorem add_tup {K : PySem.W.Frag} {H : Hp} {S : Own} {Z : Addr → Prop} {Qv : KE} {Q : VK} {xs ys : List D} {x y : V} (m : Sim K H S Z) (rx : Rp K H S Z (.tup xs) x) (ry : Rp K H S Z (.tup ys) y) (h : xs.length + ys.length ≤ sizeLine ∧ Qv (.tup (xs ++ ys)) S)
    (b : ∀ d v H' S', Ext H S H' S' → Sim K H' S' Z → Rp K H' S' Z d v → Qv d S' → Q v H') : rCatF K x y H Q := by
  simp only [Rp] at rx ry
  obtain ⟨a, vs, rfl, h1, q1⟩ := rx
  obtain ⟨c, ws, rfl, h2, q2⟩ := ry
  have l1 := q1.len
  have l2 := q2.len
  refine ⟨a, c, vs, ws, rfl, rfl, sqT_of h1, sqT_of h2, by rw [← l1, ← l2]; exact h.1, fun e => ?_, fun _ e => ?_, fun _ _ p ob hd hp => b _ _ _ _ (ext_new m hp) (sim_new m hp) (new_tup m (rps_append q1 q2) hp hd) h.2⟩
  · have h3 := h.2
    have e2 : xs = [] := List.eq_nil_of_length_eq_zero (by rw [l1, e]; rfl)
    subst e2
    exact b _ _ H S .refl m (by simp only [Rp]; exact ⟨c, ws, rfl, h2, q2⟩) h3
  · have h3 := h.2
    have e2 : ys = [] := List.eq_nil_of_length_eq_zero (by rw [l2, e]; rfl)
    subst e2
    rw [List.append_nil] at h3
    exact b _ _ H S .refl m (by simp only [Rp]; exact ⟨a, vs, rfl, h1, q1⟩) h3
theorem o_add : OpR X (binaryOp .Add) (up2 X.K rvAdd) :=
  opR_imp (((op_add.or op_add_str).or op_catF).or op_cat) fun x y H Q ⟨Z, S, dx, dy, Qv, m, rx, ry, h, b⟩ => by
    cases dx <;> cases dy <;> try exact h.elim
    · simp only [Rp] at rx ry
      exact .inl (.inl (.inl ⟨_, _, rx, ry, b _ _ H S .refl m (by simp only [Rp]) h⟩))
    · simp only [Rp] at rx ry
      exact .inl (.inl (.inr ⟨_, _, rx, ry, h.1, b _ _ H S .refl m (by simp only [Rp]) h.2⟩))
    · exact .inl (.inr (add_tup m rx ry h b))
    · simp only [Rp] at rx ry
      obtain ⟨a, vs, rfl, h1, n1, z1, q1⟩ := rx
      obtain ⟨c, ws, rfl, h2, n2, z2, q2⟩ := ry
      refine .inr ⟨a, c, vs, ws, rfl, rfl, h1, h2, by rw [← q1.len, ← q2.len]; exact h.1, fun p hp => b _ _ _ _ (ext_new m hp) (sim_new m hp) (new_lst m (rps_append q1 q2) hp) h.2⟩
def rvEqv (g : Bool → Bool) : R2v := fun x y S Q => match toP (vw S x), toP (vw S y) with
  | some p, some q => p.depth ≤ 190 ∧ Q (.bl (g (PyData.eqv p q))) S
  | _, _ => False
abbrev rvEq : R2v := rvEqv fun b => b
abbrev rvNe : R2v := rvEqv fun b => !b
theorem o_eq (hu : X.A.units + 200 < cLine) : OpR X (compareOp .Eq) (up2 X.K rvEq) := by
  intro pins s σ H x y v u Q I rx ry ⟨Z, S, dx, dy, Qv, m, qx, qy, h, b⟩
  simp only [rvEq, rvNe, rvEqv] at h
  cases e1 : toP (vw S dx) with
  | none => rw [e1] at h; exact h.elim
  | some p =>
    cases e2 : toP (vw S dy) with
    | none => rw [e1, e2] at h; exact h.elim
    | some q =>
      rw [e1, e2] at h
      obtain ⟨as, r1⟩ := Dp.reads I p x v (dp_vw m qx e1) rx
      obtain ⟨bs, r2⟩ := Dp.reads I q y u (dp_vw m qy e2) ry
      exact SeqAt.eq_plain r1 r2 (toP_plain _ _ e1) (toP_plain _ _ e2) (by have := h.1; have := Nat.min_le_left p.depth q.depth; omega) ⟨.bl _, H, I, rfl, b _ _ H S .refl m (by simp only [Rp]) h.2⟩
theorem o_ne (hu : X.A.units + 200 < cLine) : OpR X (compareOp .NotEq) (up2 X.K rvNe) := by
  intro pins s σ H x y v u Q I rx ry ⟨Z, S, dx, dy, Qv, m, qx, qy, h, b⟩
  simp only [rvEq, rvNe, rvEqv] at h
  cases e1 : toP (vw S dx) with
  | none => rw [e1] at h; exact h.elim
  | some p =>
    cases e2 : toP (vw S dy) with
    | none => rw [e1, e2] at h; exact h.elim
    | some q =>
      rw [e1, e2] at h
      obtain ⟨as, r1⟩ := Dp.reads I p x v (dp_vw m qx e1) rx
      obtain ⟨bs, r2⟩ := Dp.reads I q y u (dp_vw m qy e2) ry
      exact SeqAt.ne_plain r1 r2 (toP_plain _ _ e1) (toP_plain _ _ e2) (by have := h.1; have := Nat.min_le_left p.depth q.depth; omega) ⟨.bl _, H, I, rfl, b _ _ H S .refl m (by simp only [Rp]) h.2⟩
/-- x in a list or a tuple of data -/
def rvInG (g : Bool → Bool) : R2v := fun x y S Q => match toP x, toP (vw S y) with
  | some p, some (.list qs) => p.depth ≤ 190 ∧ Q (.bl (g (qs.any fun q => PyData.eqv q p))) S
  | some p, some (.tuple qs) => p.depth ≤ 190 ∧ Q (.bl (g (qs.any fun q => PyData.eqv q p))) S
  | _, _ => False
abbrev rvIn : R2v := rvInG fun b => b
abbrev rvNotIn : R2v := rvInG fun b => !b
theorem o_in (hu : X.A.units + 200 < cLine) : OpR X (compareOp .In) (up2 X.K rvIn) := by
  intro pins s σ H x y v u Q I rx ry ⟨Z, S, dx, dy, Qv, m, qx, qy, h, b⟩
  simp only [rvIn, rvNotIn, rvInG] at h
  cases e1 : toP dx with
  | none => rw [e1] at h; exact h.elim
  | some p =>
    cases e2 : toP (vw S dy) with
    | none => rw [e1, e2] at h; exact h.elim
    | some q =>
      rw [e1, e2] at h
      obtain ⟨as, r1⟩ := Dp.reads I p x v (dp_of _ _ _ e1 qx) rx
      obtain ⟨bs, r2⟩ := Dp.reads I q y u (dp_vw m qy e2) ry
      have pl := toP_plain _ _ e2
      cases q <;> try exact h.elim
      · exact SeqAt.in_list_data r2 r1 pl (toP_plain _ _ e1) (by have := h.1; rename_i qs; have := Nat.min_le_right (PyData.depthAll qs) p.depth; omega) ⟨.bl _, H, I, rfl, b _ _ H S .refl m (by simp only [Rp]) h.2⟩
      · exact SeqAt.in_tuple_data r2 r1 pl (toP_plain _ _ e1) (by have := h.1; rename_i qs; have := Nat.min_le_right (PyData.depthAll qs) p.depth; omega) ⟨.bl _, H, I, rfl, b _ _ H S .refl m (by simp only [Rp]) h.2⟩
theorem o_notin (hu : X.A.units + 200 < cLine) : OpR X (compareOp .NotIn) (up2 X.K rvNotIn) := by
  intro pins s σ H x y v u Q I rx ry ⟨Z, S, dx, dy, Qv, m, qx, qy, h, b⟩
  simp only [rvIn, rvNotIn, rvInG] at h
  cases e1 : toP dx with
  | none => rw [e1] at h; exact h.elim
  | some p =>
    cases e2 : toP (vw S dy) with
    | none => rw [e1, e2] at h; exact h.elim
    | some q =>
      rw [e1, e2] at h
      obtain ⟨as, r1⟩ := Dp.reads I p x v (dp_of _ _ _ e1 qx) rx
      obtain ⟨bs, r2⟩ := Dp.reads I q y u (dp_vw m qy e2) ry
      have pl := toP_plain _ _ e2
      cases q <;> try exact h.elim
      · exact SeqAt.notIn_list_data r2 r1 pl (toP_plain _ _ e1) (by have := h.1; rename_i qs; have := Nat.min_le_right (PyData.depthAll qs) p.depth; omega) ⟨.bl _, H, I, rfl, b _ _ H S .refl m (by simp only [Rp]) h.2⟩
      · exact SeqAt.notIn_tuple_data r2 r1 pl (toP_plain _ _ e1) (by have := h.1; rename_i qs; have := Nat.min_le_right (PyData.depthAll qs) p.depth; omega) ⟨.bl _, H, I, rfl, b _ _ H S .refl m (by simp only [Rp]) h.2⟩
def rvNeg : R1v := fun x S Q => match x with
  | .int i => Q (.int (-i)) S
  | _ => False
theorem u_neg : UnR X (unaryOp .USub) (up1 X.K rvNeg) := unR_imp un_neg fun x H Q ⟨Z, S, dx, Qv, m, rx, h, b⟩ => by
  cases dx <;> try exact h.elim
  simp only [Rp] at rx
  exact ⟨_, rx, b _ _ H S .refl m (by simp only [Rp]) h⟩
def rvRep : R2v := fun x y S Q => match x, y with
  | .lst xs, .int k => k < 2 ^ 63 ∧ -(2 ^ 63) ≤ k ∧ xs.length * k.toNat ≤ sizeLine ∧ Q (.lst (List.replicate k.toNat xs).flatten) S
  | _, _ => False
def rvRepO : R2v := fun x y S Q => match x, y with
  | .lst xs, .int k => k < 2 ^ 63 ∧ -(2 ^ 63) ≤ k ∧ xs.length * k.toNat ≤ sizeLine ∧ ∀ p, S p = none → Q (.ref p) (ust S p (.lst (List.replicate k.toNat xs).flatten))
  | _, _ => False
theorem rps_rep {K : PySem.W.Frag} {H : Hp} {S : Own} {Z : Addr → Prop} {xs : List D} {vs : List V} (r : Rps K H S Z xs vs) : ∀ n : Nat, Rps K H S Z (List.replicate n xs).flatten (List.replicate n vs).flatten
  | 0 => rps_nil
  | n + 1 => by
    rw [List.replicate_succ, List.replicate_succ, List.flatten_cons, List.flatten_cons]
    exact rps_append r (rps_rep r n)
theorem o_repO : OpR X (binaryOp .Mult) (up2 X.K rvRepO) := opR_imp op_rep fun x y H Q ⟨Z, S, dx, dy, Qv, m, rx, ry, h, b⟩ => by
  cases dx <;> try exact h.elim
  cases dy <;> try exact h.elim
  simp only [Rp] at rx ry
  obtain ⟨a, vs, rfl, h1, n1, z1, q1⟩ := rx
  exact ⟨a, _, vs, rfl, ry, h1, h.2.1, h.1, by rw [← q1.len]; exact h.2.2.1, fun p hp => b (.ref p) _ _ _ (ext_own m hp) (new_own m (rps_rep q1 _) hp) (by simp only [Rp]) (h.2.2.2 p (m.free hp))⟩
end
end VL
namespace HT
open PySem PyProof.Rows
section
variable {prog : Program} {w : World} {A : Around} {E : Value → Shared → Prop} {s : Shared}
theorem sliceApplied_rev {sl : Addr} {vl vu vs : Value} {n : Nat} {Q : Int × Int × Nat → Shared → Prop} (hs : s.heap.IsSliceOf sl vl vu vs) (pl : IsPart vl none) (pu : IsPart vu none) (ps : IsPart vs (some (-1)))
    (h : Q ((n : Int) - 1, -1, n) s) : wpAny (model prog w) A (Builtin.Slice.sliceApplied (.ref sl) (pure (n : Int))) Q E s := by
  obtain ⟨os, hos, hcs, hds⟩ := id hs
  unfold Builtin.Slice.sliceApplied Builtin.Slice.sliceFields
  refine wpAny_bind (wpAny_bind (wpAny_field hos hds (x := vl) rfl (wpAny_bind (wpAny_field hos hds (x := vu) rfl (wpAny_bind (wpAny_field hos hds (x := vs) rfl (wpAny_pure ?_)))))))
  refine wpAny_bind (slicePart_ ps ?_)
  show wpAny _ _ (if ((-1 : Int) == 0) = true then _ else _) _ _ s
  rw [if_neg (by decide)]
  refine wpAny_bind (slicePart_ pl (wpAny_bind (slicePart_ pu (wpAny_bind (wpAny_pure ?_)))))
  show wpAny _ _ (pure ((n : Int) - 1, (-1 : Int), Builtin.Slice.slicePlaces ((n : Int) - 1) (-1) (-1))) _ _ s
  have e : Builtin.Slice.slicePlaces ((n : Int) - 1) (-1) (-1) = n := by
    unfold Builtin.Slice.slicePlaces
    have h1 : ¬ ((-1 : Int) > 0) := by omega
    simp only [h1, if_false]
    by_cases h2 : ((n : Int) - 1) > -1
    · rw [if_pos h2]
      show (((n : Int) - 1 - (-1) - 1) / 1 + 1).toNat = n
      rw [Int.ediv_one]; omega
    · rw [if_neg h2]; omega
  rw [e]
  exact wpAny_pure h
theorem filterMap_map {α β : Type} {f : α → Option β} {g : α → β} : ∀ {l : List α}, (∀ x ∈ l, f x = some (g x)) → l.filterMap f = l.map g
  | [], _ => rfl
  | x :: l, h => by
    rw [List.filterMap_cons, h x (by simp), List.map_cons]
    simp only [filterMap_map (l := l) fun y hy => h y (by simp [hy])]
theorem pick_rev (xs : Array Value) : ((List.range xs.size).filterMap fun (m : Nat) => xs[((xs.size : Int) - 1 + (m : Int) * (-1)).toNat]?).toArray = xs.toList.reverse.toArray := by
  have e : (List.range xs.size).filterMap (fun (m : Nat) => xs[((xs.size : Int) - 1 + (m : Int) * (-1)).toNat]?) = xs.toList.reverse := by
    apply List.ext_getElem?
    intro i
    have h1 : (List.range xs.size).filterMap (fun (m : Nat) => xs[((xs.size : Int) - 1 + (m : Int) * (-1)).toNat]?) = (List.range xs.size).map fun m => xs.toList.getD (xs.size - 1 - m) .none := by
      apply filterMap_map
      intro m hm
      have hm' : m < xs.size := by simpa using hm
      have e1 : ((xs.size : Int) - 1 + (m : Int) * (-1)).toNat = xs.size - 1 - m := by omega
      rw [e1]
      have hl : xs.size - 1 - m < xs.size := by omega
      simp [hl]
    rw [h1]
    by_cases hi : i < xs.size
    · rw [List.getElem?_map, List.getElem?_range hi, List.getElem?_reverse (by simpa using hi)]
      have hl : xs.size - 1 - i < xs.size := by omega
      simp [hl]
    · rw [List.getElem?_eq_none (by simp; omega), List.getElem?_eq_none (by simp; omega)]
  rw [e]
theorem getItem_tuple_rev {t sl : Addr} {items : Array Value} {vl vu vs : Value} {Q : Value → Shared → Prop} (ht : IsTup s.heap t items) (hs : s.heap.IsSliceOf sl vl vu vs) (pl : IsPart vl none) (pu : IsPart vu none) (ps : IsPart vs (some (-1)))
    (h : Q (.ref s.heap.objs.size) { s with heap := s.heap.push { cls := .type "tuple", data := .seq items.toList.reverse.toArray } })
    (hsz : items.size ≤ sizeLine) : wpAny (model prog w) A (getItem (.ref t) (.ref sl)) Q E s := by
  have htake : sizeOk (.seq items.toList.reverse.toArray) := by
    show items.toList.reverse.toArray.size ≤ sizeLine
    rw [List.size_toArray, List.length_reverse, Array.length_toList]
    exact hsz
  obtain ⟨os, hos, hcs, hds⟩ := id hs
  have hTs : s.TypeIs (.ref sl) "slice" := ⟨os, hos, hcs⟩
  unfold getItem
  try with_reducible refine wpAny_holding ?_
  first | refine wpAny_bind (wpAny_pure ?_) | skip
  refine wpAny_bind (wpAny_sequenceKey ht.typeIs (by decide) ?_)
  refine wpAny_bind (wpAny_callSpecial?_slot (name := Str.ofString "__getitem__") ht.typeIs PyProof.Rows.slot_tuple_getitem
    (wpAny_call_entry PyProof.Rows.slot_tuple_getitem ht.typeIs entry_tuple_getitem ?_ (args_tuple_getitem _ _)))
  show wpAny _ _ (Builtin.Tuple.tupleItemsOf (.ref t) >>= _) _ _ s
  refine wpAny_bind (tupleItemsOf_ ht ?_)
  refine wpAny_bind (wpAny_typeOf hTs ?_)
  rw [if_pos (by decide)]
  refine wpAny_bind (sliceApplied_rev hs pl pu ps ?_)
  have hno : ¬ ((((items.size : Int) - 1 == 0) && ((-1 : Int) == 1) && (items.size == items.size)) = true) := by
    intro q
    rw [Bool.and_eq_true, Bool.and_eq_true] at q
    exact absurd q.1.2 (by decide)
  show wpAny _ _ (if (((items.size : Int) - 1 == 0) && ((-1 : Int) == 1) && (items.size == items.size)) = true then _ else _) _ _ s
  rw [if_neg hno, pick_rev]
  first
    | exact wpAny_bind (m := Builtin.Tuple.tupleExact _) (wpAny_newObj_type (wpAny_pure ⟨_, rfl, wpAny_pure h⟩) htake)
    | exact wpAny_bind (m := Builtin.Tuple.tupleExact _) (wpAny_newObj_type (wpAny_bind (wpAny_pure (wpAny_pure ⟨_, rfl, wpAny_pure h⟩))) htake)
    | exact wpAny_bind (wpAny_bind (m := Builtin.Tuple.tupleExact _) (wpAny_newObj_type (wpAny_pure (wpAny_pure ⟨_, rfl, wpAny_pure h⟩)) htake))
    | exact wpAny_bind (wpAny_bind (m := Builtin.Tuple.tupleExact _) (wpAny_newObj_type (wpAny_pure ⟨_, rfl, wpAny_pure h⟩) htake))
end
end HT
namespace VL
open PySem PySem.Spec PyProof.Rows L2
def tvRev (T : TEv) : TEv := fun ρ S Q => T ρ S fun d S1 => match vw S1 d with
  | .tup xs => Q (.tup xs.reverse) S1
  | .lst xs => Q (.lst xs.reverse) S1
  | _ => False
section
variable {X : Cx}
theorem v_rev {e : Expr} {T : TEv} {k : Nat} {p1 p2 p3 pos : Pos} (he : PE X e (upE X.K T)) : PE X (.Subscript e (.Slice none none (some (.UnaryOp .USub (.Constant (.int 1) k p1) p2)) p3) pos) (upE X.K (tvRev T)) := by
  refine ⟨fun pins s σ H Q I hh => ?_⟩
  obtain ⟨Z, ρ, S, Qv, m, r, h, b⟩ := hh
  refine Subscript_ (thn (he.run pins s σ H (fun v H1 => ∃ d S1, Ext H S H1 S1 ∧ Sim X.K H1 S1 Z ∧ Rp X.K H1 S1 Z d v ∧ (match vw S1 d with
    | .tup xs => Qv (.tup xs.reverse) S1
    | .lst xs => Qv (.lst xs.reverse) S1
    | _ => False)) I ⟨Z, ρ, S, _, m, r, h, fun d v H1 S1 e1 m1 r1 h1 => ⟨d, S1, e1, m1, r1, h1⟩⟩) fun v s1 ⟨x, H1, I1, rr, d, S1, e1, m1, r1, h1⟩ => ?_)
  have hst : PO X (some (.UnaryOp .USub (.Constant (.int 1) k p1) p2)) (tPart (tUn (rU fun i => .int (-i)) (tC (.int 1)))) := po_some (pe_un un_neg pe_int)
  refine wpAny_Slice (thn (po_none.run pins s1 σ H1 (fun o H2 => o = none ∧ H2 = H1) I1 ⟨rfl, rfl⟩) fun vl s2 ⟨l, H2, I2, pl, el, e2⟩ => ?_)
  subst el e2
  refine thn (po_none.run pins s2 σ H2 (fun o H3 => o = none ∧ H3 = H2) I2 ⟨rfl, rfl⟩) fun vu s3 ⟨u, H3, I3, pu, eu, e3⟩ => ?_
  subst eu e3
  refine thn (hst.run pins s3 σ H3 (fun o H4 => o = some (-1) ∧ H4 = H3) I3 ⟨1, rfl, -1, rfl, rfl, rfl⟩) fun vs s4 ⟨o, H4, I4, ps, eo, e4⟩ => ?_
  subst eo e4
  have I5 : Inv X pins σ H4 { s4 with heap := s4.heap.push { cls := .type "slice", data := .fields #[vl, vu, vs] } } := I4.kept (t' := s4.toks) fun b ob q => Heap.get?_push_of_some _ q
  have hfree := I5.hok.fresh (Nat.le_refl _)
  have fin_l : ∀ (a : Addr) (ws : List V) (xs : List D), x = .ref a → SqL X.K H4 a ws → Rps X.K H4 S1 Z xs ws → Qv (.lst xs.reverse) S1 →
      wpAny (model X.prog X.w) X.A (subscriptTail e (.Slice none none (some (.UnaryOp .USub (.Constant (.int 1) k p1) p2)) p3) v (.ref s4.heap.objs.size)) (EP X pins σ Q) X.xe { s4 with heap := s4.heap.push { cls := .type "slice", data := .fields #[vl, vu, vs] } } := by
    intro a ws xs ex hx q hq
    subst ex
    cases rr
    obtain ⟨its, rv, ht, hz⟩ := I5.list hx
    have hlen := rv.length
    refine tail_any (ops := [.ref a, .ref s4.heap.objs.size]) ht.isList.typeIs (PySem.slot_list_getitem.lookup) ?_ (by with_unfolding_all rfl)
    refine wpAny_getItem_list_slice ht.isList (Heap.IsSliceOf.new _ vl vu vs) pl pu ps (by decide) ?_ (by rw [List.size_toArray]; omega)
    rw [PySem.W.krv_pick]
    refine ⟨.ref _, _, I5.laid (t' := s4.toks) (o := .lst ws.reverse) (fun b ob q => Heap.get?_push_of_some _ q) (Nat.le_refl _) ?_, rfl, b _ _ _ _ (e1.trans (ext_new m1 hfree)) (sim_new m1 hfree) (new_lst m1 (rps_reverse q) hfree) hq⟩
    exact ⟨by rw [List.length_reverse]; exact hz, _, 0, rv.reverse, Heap.get?_push_size _ rfl⟩
  rcases vw_of m1 r1 with ev | ⟨a, xs, ws, rfl, rfl, es, ev, hh1, hh2⟩
  · rw [ev] at h1
    cases d <;> try exact h1.elim
    · simp only [Rp] at r1
      obtain ⟨a, ws, rfl, q1, q2⟩ := r1
      cases rr
      obtain ⟨its, rv, ht, hz⟩ := I5.tuple (sqT_of q1)
      have hlen := rv.length
      refine tail_any (ops := [.ref a, .ref s4.heap.objs.size]) ht.typeIs (PyProof.Rows.slot_tuple_getitem.lookup) ?_ (by with_unfolding_all rfl)
      refine HT.getItem_tuple_rev ht (Heap.IsSliceOf.new _ vl vu vs) pl pu ps ?_ (by rw [List.size_toArray]; omega)
      rename_i xs
      refine ⟨.ref _, _, I5.laid (t' := s4.toks) (o := .frz { cls := .type "tuple", data := .seq its.toArray.toList.reverse.toArray } (.tup ws.reverse)) (fun b ob q => Heap.get?_push_of_some _ q) (Nat.le_refl _) ?_, rfl, b _ _ _ _ (e1.trans (ext_new m1 hfree)) (sim_new m1 hfree) (new_tup m1 (rps_reverse q2) hfree rfl) h1⟩
      exact ⟨Heap.get?_push_size _ rfl, by rw [List.length_reverse]; exact hz, _, rv.reverse, ⟨_, Heap.get?_push_size _ rfl, rfl, _, rfl⟩⟩
    · simp only [Rp] at r1
      obtain ⟨a, ws, ex, q1, _, _, q2⟩ := r1
      exact fin_l a ws _ ex (.of q1) q2 h1
  · rw [ev] at h1
    exact fin_l a ws xs rfl (.of hh1) hh2 h1
end
end VL
namespace VL
open PySem PySem.Spec PyProof.Rows L2
def SqB (b : Bool) (K : PySem.W.Frag) (H : Hp) (a : Addr) (xs : List V) : Prop := if b = true then SqL K H a xs else SqT K H a xs
def IsB (b : Bool) (h : Heap) (a : Addr) (its : Array Value) : Prop := if b = true then h.IsList a its else h.IsTuple a its
def ItB (b : Bool) (h : Heap) (it a : Addr) (i : Nat) : Prop := if b = true then h.IsListIter it a i else h.IsTupleIter it a i
def oB (b : Bool) (a : Addr) : Obj := if b = true then { cls := .type "list_iterator", data := .fields #[.ref a, .int 0 0] } else { cls := .type "tuple_iterator", data := .fields #[.ref a, .int 0 0] }
section
variable {X : Cx} {pins : List (Addr × Obj)} {σ : L2.St} {H : Hp} {s : Shared}
theorem sqB_inv (I : Inv X pins σ H s) {b : Bool} {a : Addr} {xs : List V} (h : SqB b X.K H a xs) : ∃ its : List Value, Vals xs its ∧ IsB b s.heap a its.toArray ∧ xs.length ≤ sizeLine := by
  cases b with
  | true =>
    obtain ⟨its, r, p, z⟩ := I.list h
    exact ⟨its, r, p.isList, z⟩
  | false =>
    obtain ⟨its, r, p, z⟩ := I.tuple h
    exact ⟨its, r, p, z⟩
theorem sqB_inj (I : Inv X pins σ H s) {b : Bool} {a : Addr} {xs ys : List V} (h : SqB b X.K H a xs) (h' : SqB b X.K H a ys) : xs = ys := by
  cases b with
  | true => exact I.list_inj h h'
  | false => exact I.tuple_inj h h'
end
theorem drawsB {prog : Program} {w : World} {A : Around} (hh : A.handled = none) (b : Bool) (it a : Addr) (hne : a ≠ it) (items : Array Value) :
    Draws prog w A it [it, a] items.size (fun i v => items[i]? = some v) (fun i h => ItB b h it a i ∧ IsB b h a items) := by
  cases b with
  | true => exact Draws.list hh it a hne items
  | false => exact Draws.tuple hh it a hne items
theorem beginsB (b : Bool) (a : Addr) (items : Array Value) : Begins (.ref a) (oB b a) fun h => IsB b h a items := by
  cases b with
  | true => exact begins_list a items
  | false => exact begins_tuple a items
theorem itB_at {b : Bool} {h h' : Heap} {it a : Addr} {i : Nat} (x : ItB b h it a i) (e : ∀ o, h.get? it = some o → h'.get? it = some o) : ItB b h' it a i := by
  cases b with
  | true => exact Heap.IsListIter.at x e
  | false => exact Heap.IsTupleIter.at x e
theorem itB_obj {b : Bool} {h : Heap} {it a : Addr} {i : Nat} (x : ItB b h it a i) : ∃ o, h.get? it = some o ∧ (∀ v, o.data ≠ .cell v) ∧ o.cls ≠ .type "list" ∧ o.cls ≠ .type "tuple" := by
  cases b with
  | true =>
    obtain ⟨o, e, c, d⟩ := x
    exact ⟨o, e, (fun v q => by rw [d] at q; cases q), by rw [c]; decide, by rw [c]; decide⟩
  | false =>
    obtain ⟨o, e, c, d⟩ := x
    exact ⟨o, e, (fun v q => by rw [d] at q; cases q), by rw [c]; decide, by rw [c]; decide⟩
theorem isB_obj {b : Bool} {h : Heap} {a : Addr} {its : Array Value} (x : IsB b h a its) : ∃ o, h.get? a = some o ∧ (o.cls = .type "list" ∨ o.cls = .type "tuple") := by
  cases b with
  | true => obtain ⟨o, e, c, _⟩ := x; exact ⟨o, e, .inl c⟩
  | false => obtain ⟨o, e, c, _⟩ := x; exact ⟨o, e, .inr c⟩
theorem ne_it {b b' : Bool} {h : Heap} {it a a' : Addr} {i : Nat} {its : Array Value} (x : ItB b h it a i) (y : IsB b' h a' its) : a' ≠ it := fun e => by
  obtain ⟨o, e1, _, c1, c2⟩ := itB_obj x
  obtain ⟨o', e2, c⟩ := isB_obj y
  rw [e, e1] at e2; cases e2
  exact c.elim c1 c2
theorem oB_it (b : Bool) {h : Heap} {it a : Addr} (e : h.get? it = some (oB b a)) : ItB b h it a 0 := by
  cases b with
  | true => exact ⟨_, e, rfl, rfl⟩
  | false => exact ⟨_, e, rfl, rfl⟩
def IteB (K : PySem.W.Frag) (b : Bool) (a : Addr) : It :=
  ⟨fun i H => ∃ xs x, SqB b K H a xs ∧ xs[i]? = some x, fun i H v H' => ∃ T x, v = .ref T ∧ H T = none ∧ H' = upd H T (.tup [.int (i : Nat), x]) ∧ ∀ xs, SqB b K H a xs → xs[i]? = some x,
    fun i H => ∃ xs, SqB b K H a xs ∧ i = xs.length⟩
theorem turn_enumB {P : Program} {w : World} {K : PySem.W.Frag} {elts : List Expr} {kk : Nat} {tpos : Pos} (b : Bool) (a e it : Addr) :
    Turn P w K (.Tuple elts kk tpos) (IteB K b a) [e, it] e (fun i h => (∃ old, IsEnum h e it ((0 : Int) + (i : Nat)) old) ∧ ItB b h it a i ∧ e ≠ it) where
  mem := by simp
  obj := fun i h st c hc => by
    obtain ⟨⟨old, he⟩, hit, _⟩ := st
    have e' : c = e ∨ c = it := by simpa using hc
    rcases e' with q | q
    · rw [q]; exact ⟨_, he, fun v q => nomatch q⟩
    · rw [q]; obtain ⟨o, e1, d, _⟩ := itB_obj hit; exact ⟨o, e1, d⟩
  keep := fun i h h' st k => by
    obtain ⟨⟨old, he⟩, hit, hne⟩ := st
    exact ⟨⟨old, k e (by simp) _ he⟩, itB_at hit fun o q => k it (by simp) o q, hne⟩
  item := by
    intro X hP hw hK hc i pins s σ H E I hf st hg
    subst hP hw hK
    obtain ⟨⟨old, he⟩, hit, hne⟩ := st
    obtain ⟨xs, x, hq, hx⟩ := hg
    obtain ⟨its, rv, p, hz⟩ := sqB_inv I hq
    obtain ⟨u, hu, ru⟩ := rv.get hx
    have hai : a ≠ it := ne_it hit p
    have hea : e ≠ a := fun z => by
      obtain ⟨o', e2, c⟩ := isB_obj p
      rw [← z, (show s.heap.get? e = some _ from he)] at e2; cases e2
      rcases c with c | c <;> simp at c
    have D := drawsB (prog := X.prog) (w := X.w) (A := X.A.in1) (show X.A.in1.handled = none from I.ok.hd hc) b it a hai its.toArray
    have W := GoesN.enumFrom (elts := elts) (x1 := kk) (pos := tpos) 0 D e hne (by simp [hne, hea]) (by simp)
    have hi : i < its.toArray.size := by
      have := (List.getElem?_eq_some_iff.mp hu).1
      simpa using this
    refine W.goes i s (fun v s2 => ∃ x H', Inv X pins σ H' s2 ∧ RelV x v ∧ (IteB X.K b a).yld i H x H' ∧ ((∃ old, IsEnum s2.heap e it ((0 : Int) + ((i + 1 : Nat) : Int)) old) ∧ ItB b s2.heap it a (i + 1) ∧ e ≠ it) ∧ ∀ c ∈ [e, it], H' c = none) E hi ⟨⟨old, he⟩, hit, p⟩ fun v h' tk hY st' hk htk => ?_
    obtain ⟨T, t, y, rfl, hT, hy, hTt⟩ := hY
    have eu : y = u := by
      have h1 : its.toArray[i]? = some y := hy
      have h2 : its.toArray[i]? = some u := by simpa using hu
      rw [h1] at h2; exact Option.some.inj h2
    subst eu
    have e0 : (0 : Int) + (i : Int) = (i : Int) := by omega
    rw [e0] at hTt
    have new : ObjOk X.prog X.w (upd H T (.tup [.int (i : Nat), x])) h' T (.tup [.int (i : Nat), x]) :=
      ⟨by show 2 ≤ sizeLine; decide, [.int i t, y], .cons ⟨_, rfl⟩ (.cons ru .nil), hTt⟩
    have I1 : Inv X pins σ (upd H T (.tup [.int (i : Nat), x])) { s with heap := h', toks := tk } :=
      I.turnedNew (ch := [e, it]) hk hf hT new
    refine ⟨.ref T, _, I1, rfl, ⟨T, x, rfl, I.hok.fresh hT, rfl, fun ys hy => by rw [sqB_inj I hy hq]; exact hx⟩, ⟨st'.1, st'.2.1, hne⟩, fun c hcm => ?_⟩
    have hcl : c < s.heap.objs.size := by
      have e' : c = e ∨ c = it := by simpa using hcm
      rcases e' with z | z
      · rw [z]; exact Heap.lt_size he
      · rw [z]; obtain ⟨o, e1, _⟩ := itB_obj hit; exact Heap.lt_size e1
    rw [upd_ne (Nat.ne_of_lt (Nat.lt_of_lt_of_le hcl hT))]
    exact (hf c hcm).1
  done := by
    intro X hP hw hK hc i pins s σ H E I hf st hg
    subst hP hw hK
    obtain ⟨⟨old, he⟩, hit, hne⟩ := st
    obtain ⟨xs, hq, hx⟩ := hg
    obtain ⟨its, rv, p, hz⟩ := sqB_inv I hq
    have hai : a ≠ it := ne_it hit p
    have hl := rv.length
    have hea : e ≠ a := fun z => by
      obtain ⟨o', e2, c⟩ := isB_obj p
      rw [← z, (show s.heap.get? e = some _ from he)] at e2; cases e2
      rcases c with c | c <;> simp at c
    have D := drawsB (prog := X.prog) (w := X.w) (A := X.A.in1) (show X.A.in1.handled = none from I.ok.hd hc) b it a hai its.toArray
    have W := GoesN.enumFrom (elts := elts) (x1 := kk) (pos := tpos) 0 D e hne (by simp [hne, hea]) (by simp)
    have hn : its.toArray.size = i := by rw [List.size_toArray, ← hl, ← hx]
    refine W.stops s (fun s1 => Inv X pins σ H s1) E (by rw [hn]; exact ⟨⟨old, he⟩, hit, p⟩) fun h' tk hk htk => ?_
    exact I.turnedL (t' := tk) (ch := [e, it]) hk hf
  self := fun A i s Q E st h => let ⟨⟨_, he⟩, _⟩ := st; wpAny_pyIter_enum he h
set_option maxHeartbeats 1000000 in
theorem meets_enumerate_new1 {v : Value} {o : Obj} {H : Heap → Prop} (B : Begins v o H) :
    Meets (Builtin.«enumerate.__new__» ⟨[.type "enumerate", v], []⟩) (fun _ R s => H s.heap ∧
      R (.ok (.ret (.ref (s.heap.push o).objs.size))) { s with heap := (s.heap.push o).push { cls := .type "enumerate", data := .fields #[.none, .bool false, .ref s.heap.objs.size, rawInt 0, .none, .none] } }) :=
  .of_wp fun prog w A R s h => by
    obtain ⟨hp, g, d, tk, os⟩ := s; obtain ⟨h1, h⟩ := h
    have hsub := sub_enumerate
    have q1 : ∀ {A' : Around} {E : Value → Shared → Prop} {Q : Value → Shared → Prop}, Q (.ref hp.objs.size) ⟨hp.push o, g, d, tk, os⟩ → wpAny (model prog w) A' (pyIter v) Q E ⟨hp, g, d, tk, os⟩ :=
      fun q => B.iter prog w _ _ ⟨hp, g, d, tk, os⟩ _ h1 q
    wp_walk using q1
    refine wpAny_stack_any fun st => wpAny_pure ?_
    split
    · rename_i c _ _ _ _ _
      cases (c == Value.type "enumerate")
      · wp_walk using q1
        exact ⟨_, rfl, h⟩
      · wp_walk using q1
        exact ⟨_, rfl, h⟩
    · wp_walk using q1
      exact ⟨_, rfl, h⟩
section
variable {prog : Program} {w : World} {A : Around} {E : Value → Shared → Prop} {s : Shared}
theorem enum_begins1 {v : Value} {o : Obj} {H : Heap → Prop} {Q : Value → Shared → Prop} (B : Begins v o H) (h1 : H s.heap)
    (h : ∀ h', IsEnum h' (s.heap.objs.size + 1) s.heap.objs.size 0 .none → h'.get? s.heap.objs.size = some o → h'.objs.size = s.heap.objs.size + 2 →
      (∀ b o, s.heap.get? b = some o → h'.get? b = some o) → Q (.ref (s.heap.objs.size + 1)) { s with heap := h' }) :
    wpAny (model prog w) A (call (.type "enumerate") [v]) Q E s := by
  refine callType_new F.called_enumerate (by decide) (F.typeCall_enumerate_1 _) (F.newCall_enumerate_1 _) (fun obj => F.args_object_init_2 obj _) F.entry_enumerate_new
    (meets_enumerate_new1 B) ⟨h1, ?_⟩
  have hz : (s.heap.push o).objs.size = s.heap.objs.size + 1 := Heap.size_push ..
  show _ ∧ _
  rw [hz]
  have he : IsEnum ((s.heap.push o).push { cls := .type "enumerate", data := .fields #[.none, .bool false, .ref s.heap.objs.size, rawInt 0, .none, .none] }) (s.heap.objs.size + 1) s.heap.objs.size 0 .none := by
    have := Heap.get?_push_size (s.heap.push o) (o := { cls := .type "enumerate", data := .fields #[.none, .bool false, .ref s.heap.objs.size, rawInt 0, .none, .none] }) rfl
    rw [hz] at this; exact this
  refine ⟨⟨_, he, rfl⟩, h _ he (Heap.get?_push_of_some _ (Heap.get?_push_size _ B.free)) (by rw [Heap.size_push, hz]) fun b o x => Heap.get?_push_of_some _ (Heap.get?_push_of_some _ x)⟩
end
/-- what is seen of a walked value: a list or a tuple at a -/
theorem seqB_of {K : PySem.W.Frag} {H : Hp} {S : Own} {Z : Addr → Prop} {d : D} {v : V} {xs : List D} (r : Rp K H S Z d v) (h : seqD d = some xs) : ∃ b a vs, v = .ref a ∧ SqB b K H a vs ∧ Rps K H S Z xs vs ∧
    ∀ H1 S1 Z1, Stp H S Z H1 S1 Z1 → SqB b K H1 a vs := by
  cases d <;> simp only [seqD] at h <;> try (cases h)
  · simp only [Rp] at r
    obtain ⟨a, vs, rfl, h1, h2⟩ := r
    refine ⟨false, a, vs, rfl, sqT_of h1, h2, fun H1 S1 Z1 e => ?_⟩
    have r2 := Rp.stp (K := K) e (.tup []) (.ref a)
    rcases h1 with ⟨⟨ob, h1, hd⟩, n⟩ | h1
    · exact sqT_of (S := S1) (.inl ⟨⟨ob, (e a _ h1 n (.inl trivial)).1, hd⟩, (e a _ h1 n (.inl trivial)).2.1⟩)
    · exact sqT_of (S := S1) (.inr h1)
  · simp only [Rp] at r
    obtain ⟨a, vs, rfl, h1, n, z, h2⟩ := r
    exact ⟨true, a, vs, rfl, .of h1, h2, fun H1 S1 Z1 e => .of (e a _ h1 n (.inr z)).1⟩
  · simp only [Rp] at r
    obtain ⟨a, vs, rfl, h1, h2⟩ := r
    refine ⟨true, a, vs, rfl, h1.elim (fun q => .inl q.1) .inr, h2, fun H1 S1 Z1 e => ?_⟩
    rcases h1 with ⟨h1, n, z⟩ | h1
    · obtain ⟨o, ho⟩ := rd_some h1
      exact .inl (rd_stay h1 fun o' ho' => by rw [ho] at ho'; cases ho'; exact (e a o ho n (.inr z)).1)
    · exact .inr h1
  · simp only [Rp] at r
    obtain ⟨a, vs, rfl, ⟨h1, n⟩, h2⟩ := r
    refine ⟨false, a, vs, rfl, .inl h1, h2, fun H1 S1 Z1 e => ?_⟩
    obtain ⟨o, ho, im⟩ := rd_imm h1
    exact .inl (rd_stay h1 fun o' ho' => by rw [ho] at ho'; cases ho'; exact (e a o ho n (.inl im)).1)
def enumD : Nat → List D → List D
  | _, [] => []
  | k, x :: xs => .tuq [.int (k : Nat), x] :: enumD (k + 1) xs
theorem enumD_length : ∀ (xs : List D) (k : Nat), (enumD k xs).length = xs.length
  | [], _ => rfl
  | x :: xs, k => by simp only [enumD, List.length_cons, enumD_length xs]
theorem enumD_get : ∀ (xs : List D) (k i : Nat), (enumD k xs)[i]? = xs[i]?.map fun x => .tuq [.int ((k + i : Nat) : Nat), x]
  | [], _, _ => by simp [enumD]
  | x :: xs, k, 0 => by simp [enumD]
  | x :: xs, k, i + 1 => by
    simp only [enumD, List.getElem?_cons_succ]
    rw [enumD_get xs (k + 1) i]
    have e : k + 1 + i = k + (i + 1) := by omega
    rw [e]
theorem rp_tuq {K : PySem.W.Frag} {H : Hp} {S : Own} {Z : Addr → Prop} {ds : List D} {vs : List V} {p : Addr} (h : H p = some (.tup vs)) (n : S p = none) (r : Rps K H S Z ds vs) : Rp K H S Z (.tuq ds) (.ref p) := by
  simp only [Rp]; exact ⟨p, vs, rfl, ⟨.inl h, n⟩, r⟩
theorem itok_enum {K : PySem.W.Frag} {H : Hp} {S : Own} {Z : Addr → Prop} {b : Bool} {a : Addr} {vs : List V} {xs : List D} (hs : ∀ H1 S1 Z1, Stp H S Z H1 S1 Z1 → SqB b K H1 a vs) (r : Rps K H S Z xs vs) : ItOk K Z (enumD 0 xs) (IteB K b a) H S where
  go := fun i H1 S1 Z1 e m hi => by
    rw [enumD_length] at hi
    have hl := r.len
    exact ⟨vs, vs[i]'(by omega), hs _ _ _ e, List.getElem?_eq_getElem (by omega)⟩
  yld := fun i H1 S1 Z1 x H2 d e m hd hy => by
    obtain ⟨T, y, rfl, hT, rfl, hx⟩ := hy
    rw [enumD_get] at hd
    cases q : xs[i]? with
    | none => rw [q] at hd; cases hd
    | some z =>
      rw [q] at hd
      simp only [Option.map_some, Option.some.injEq, Nat.zero_add] at hd
      subst hd
      obtain ⟨v, hv, rv⟩ := rps_getD r q
      have ev : y = v := by
        have := hx vs (hs _ _ _ e)
        rw [hv] at this; exact (Option.some.inj this).symm
      subst ev
      exact ⟨ext_new m hT, sim_new m hT, rp_tuq upd_same (m.free hT) (rps_cons (by simp only [Rp]) (rps_cons ((Rp.stp e _ _ rv).ext (ext_new m hT)) rps_nil))⟩
  stop := fun i H1 S1 Z1 e m hi => ⟨vs, hs _ _ _ e, by rw [hi, enumD_length, r.len]⟩
def tvEnum (T : TAv) : TIv := fun ρ S Q => T ρ S fun ds S1 => match ds with
  | [d] => match seqD d with
    | some xs => Q (enumD 0 xs) S1
    | none => False
  | _ => False
theorem i_enum {X : Cx} {e : Expr} {T : TAv} {p pos tpos : Pos} {elts : List Expr} {kk : Nat} (hg : Gl X "enumerate") (hm : X.mg "enumerate" = none) (ha : PA X [e] (upA X.K T)) (hs : starEach [e] X.env = [(false, eval e X.env)] := by rfl) :
    PI X (.Tuple elts kk tpos) (.Call (.Name "enumerate" p) [e] [] pos) (upI X.K (tvEnum T)) := by
  refine ⟨fun pins s σ H R I h => ?_⟩
  obtain ⟨Z, ρ, S, Qv, m, r, h, bk⟩ := h
  refine Call_ (ld_blt I hg hm boot_enumerate (PyProof.Rows.callWith_type1 (thn (ha.run pos pins s σ H (fun vs H1 => ∃ d v xs S1, vs = [v] ∧ Ext H S H1 S1 ∧ Sim X.K H1 S1 Z ∧ Rp X.K H1 S1 Z d v ∧ seqD d = some xs ∧ Qv (enumD 0 xs) S1) I
    ⟨Z, ρ, S, _, m, r, h, fun ds vs H1 S1 e1 m1 r1 h1 => ?_⟩) fun us s1 ⟨vs, H1, I1, rr, q⟩ => ?_) hs rfl))
  · match ds, r1, h1 with
    | [d], r1, h1 =>
      simp only [Rps] at r1
      obtain ⟨v, _, rfl, q1, rfl⟩ := r1
      dsimp only at h1
      cases q : seqD d with
      | none => rw [q] at h1; exact h1.elim
      | some xs => rw [q] at h1; exact ⟨d, v, xs, S1, rfl, e1, m1, q1, q, h1⟩
  · obtain ⟨d, v, xs, S1, rfl, e1, m1, r1, q, hq⟩ := q
    obtain ⟨b, a, ws, rfl, hq2, r2, st⟩ := seqB_of r1 q
    obtain ⟨u, rfl, ru⟩ := vals1 rr
    cases ru
    obtain ⟨its, rv, p', hz⟩ := sqB_inv I1 hq2
    refine enum_begins1 (beginsB b a its.toArray) p' fun h' he hit hsz hk => wpAny_pyIter_enum he ?_
    have I2 : Inv X pins σ H1 { s1 with heap := h' } := I1.kept (t' := s1.toks) hk
    refine ⟨s1.heap.objs.size + 1, [s1.heap.objs.size + 1, s1.heap.objs.size], _, _, H1, rfl, I2, turn_enumB b a (s1.heap.objs.size + 1) s1.heap.objs.size, ⟨⟨.none, by simpa using he⟩, oB_it b hit, Nat.succ_ne_self _⟩, fun c hc => ?_, bk _ _ H1 S1 e1 m1 (itok_enum st r2) hq⟩
    have e' : c = s1.heap.objs.size + 1 ∨ c = s1.heap.objs.size := by simpa using hc
    have hle : s1.heap.objs.size ≤ c := by
      rcases e' with z | z
      · rw [z]; exact Nat.le_add_right _ _
      · rw [z]; exact Nat.le_refl _
    exact I1.fpOk hle (I1.hok.fresh hle)
def itB (K : PySem.W.Frag) (b : Bool) (a : Addr) : It := if b = true then Itl K a else Itt K a
theorem itok_seq {K : PySem.W.Frag} {H : Hp} {S : Own} {Z : Addr → Prop} {b : Bool} {a : Addr} {vs : List V} {xs : List D} (hs : ∀ H1 S1 Z1, Stp H S Z H1 S1 Z1 → SqB b K H1 a vs) (r : Rps K H S Z xs vs) : ItOk K Z xs (itB K b a) H S := by
  have hl := r.len
  cases b with
  | true => exact
    { go := fun i H1 S1 Z1 e m hi => ⟨vs, vs[i]'(by omega), hs _ _ _ e, List.getElem?_eq_getElem (by omega)⟩
      yld := fun i H1 S1 Z1 x H2 d e m hd hy => by
        obtain ⟨rfl, hx⟩ := hy
        obtain ⟨v, hv, rv⟩ := rps_getD r hd
        have := hx vs (hs _ _ _ e)
        rw [hv] at this
        cases this
        exact ⟨.refl, m, Rp.stp e _ _ rv⟩
      stop := fun i H1 S1 Z1 e m hi => ⟨vs, hs _ _ _ e, by omega⟩ }
  | false => exact
    { go := fun i H1 S1 Z1 e m hi => ⟨vs, vs[i]'(by omega), hs _ _ _ e, List.getElem?_eq_getElem (by omega)⟩
      yld := fun i H1 S1 Z1 x H2 d e m hd hy => by
        obtain ⟨rfl, hx⟩ := hy
        obtain ⟨v, hv, rv⟩ := rps_getD r hd
        have := hx vs (hs _ _ _ e)
        rw [hv] at this
        cases this
        exact ⟨.refl, m, Rp.stp e _ _ rv⟩
      stop := fun i H1 S1 Z1 e m hi => ⟨vs, hs _ _ _ e, by omega⟩ }
def tvSq (T : TEv) : TIv := fun ρ S Q => T ρ S fun d S1 => match seqD d with
  | some xs => Q xs S1
  | none => False
theorem i_seq {X : Cx} {tg l : Expr} {T : TEv} (hl : PE X l (upE X.K T)) : PI X tg l (upI X.K (tvSq T)) := by
  refine ⟨fun pins s σ H R I h => ?_⟩
  obtain ⟨Z, ρ, S, Qv, m, r, h, bk⟩ := h
  refine thn (hl.run pins s σ H (fun v H1 => ∃ d xs S1, Ext H S H1 S1 ∧ Sim X.K H1 S1 Z ∧ Rp X.K H1 S1 Z d v ∧ seqD d = some xs ∧ Qv xs S1) I ⟨Z, ρ, S, _, m, r, h, fun d v H1 S1 e1 m1 r1 h1 => ?_⟩) fun v s1 ⟨x, H1, I1, rr, d, xs, S1, e1, m1, r1, q, hq⟩ => ?_
  · cases q : seqD d with
    | none => rw [q] at h1; exact h1.elim
    | some xs => rw [q] at h1; exact ⟨d, xs, S1, e1, m1, r1, q, h1⟩
  · obtain ⟨b, a, ws, rfl, hq2, r2, st⟩ := seqB_of r1 q
    cases rr
    obtain ⟨its, rv, p, hz⟩ := sqB_inv I1 hq2
    have it := bk xs _ H1 S1 e1 m1 (itok_seq st r2) hq
    cases b with
    | true =>
      refine wpAny_pyIter_list p ?_
      refine ⟨s1.heap.objs.size, [s1.heap.objs.size], _, _, H1, rfl, I1.kept (t' := s1.toks) fun b o e => Heap.get?_push_of_some _ e, turn_list a _, ⟨_, Heap.get?_push_size _ rfl, rfl, rfl⟩, fun b hb => ?_, it⟩
      have e : b = s1.heap.objs.size := by simpa using hb
      subst e
      exact I1.fpOk (Nat.le_refl _) (I1.hok.fresh (Nat.le_refl _))
    | false =>
      refine wpAny_pyIter_tuple (show s1.heap.IsTuple a its.toArray from p) ?_
      refine ⟨s1.heap.objs.size, [s1.heap.objs.size], _, _, H1, rfl, I1.kept (t' := s1.toks) fun b o e => Heap.get?_push_of_some _ e, turn_tuple a _, ⟨_, Heap.get?_push_size _ rfl, rfl, rfl⟩, fun b hb => ?_, it⟩
      have e : b = s1.heap.objs.size := by simpa using hb
      subst e
      exact I1.fpOk (Nat.le_refl _) (I1.hok.fresh (Nat.le_refl _))
def rngD : Int → Nat → List D
  | _, 0 => []
  | lo, n + 1 => .int lo :: rngD (lo + 1) n
theorem rngD_length : ∀ (n : Nat) (lo : Int), (rngD lo n).length = n
  | 0, _ => rfl
  | n + 1, lo => by simp only [rngD, List.length_cons, rngD_length n]
theorem rngD_get : ∀ (n : Nat) (lo : Int) (i : Nat), (rngD lo n)[i]? = if i < n then some (.int (lo + i)) else none
  | 0, _, _ => by simp [rngD]
  | n + 1, lo, 0 => by simp [rngD]
  | n + 1, lo, i + 1 => by
    simp only [rngD, List.getElem?_cons_succ]
    rw [rngD_get n (lo + 1) i]
    by_cases h : i < n
    · rw [if_pos h, if_pos (by omega)]
      congr 2; omega
    · rw [if_neg h, if_neg (by omega)]
theorem itok_rng {K : PySem.W.Frag} {H : Hp} {S : Own} {Z : Addr → Prop} {lo : Int} {n : Nat} : ItOk K Z (rngD lo n) (Itr lo n) H S where
  go := fun i H1 S1 Z1 e m hi => by rw [rngD_length] at hi; exact hi
  yld := fun i H1 S1 Z1 x H2 d e m hd hy => by
    obtain ⟨rfl, rfl⟩ := hy
    rw [rngD_get] at hd
    split at hd
    · cases hd; exact ⟨.refl, m, by simp only [Rp]⟩
    · cases hd
  stop := fun i H1 S1 Z1 e m hi => by rw [rngD_length] at hi; exact Nat.le_of_eq hi.symm
def oneI : List D → Option Int
  | [.int j] => some j
  | _ => none
def twoI : List D → Option (Int × Int)
  | [.int i, .int j] => some (i, j)
  | _ => none
theorem oneI_of {K : PySem.W.Frag} {H : Hp} {S : Own} {Z : Addr → Prop} : ∀ {ds : List D} {vs : List V} {j : Int}, oneI ds = some j → Rps K H S Z ds vs → vs = [.int j]
  | [], _, _, h, _ => by simp [oneI] at h
  | [d], vs, j, h, r => by
    cases d <;> simp [oneI] at h
    subst h
    simp only [Rps, Rp] at r
    obtain ⟨v, _, rfl, rfl, rfl⟩ := r
    rfl
  | d :: e :: r, _, _, h, _ => by simp [oneI] at h
theorem twoI_of {K : PySem.W.Frag} {H : Hp} {S : Own} {Z : Addr → Prop} : ∀ {ds : List D} {vs : List V} {i j : Int}, twoI ds = some (i, j) → Rps K H S Z ds vs → vs = [.int i, .int j]
  | [], _, _, _, h, _ => by simp [twoI] at h
  | [d], _, _, _, h, _ => by simp [twoI] at h
  | [d, e], vs, i, j, h, r => by
    cases d <;> cases e <;> simp [twoI] at h
    obtain ⟨rfl, rfl⟩ := h
    simp only [Rps, Rp] at r
    obtain ⟨v, _, rfl, rfl, w, _, rfl, rfl, rfl⟩ := r
    rfl
  | d :: e :: f :: r, _, _, _, h, _ => by simp [twoI] at h
def tvRng1 (T : TAv) : TIv := fun ρ S Q => T ρ S fun ds S1 => match oneI ds with
  | some j => (-(2 ^ 62) ≤ j ∧ j < 2 ^ 62) ∧ Q (rngD 0 j.toNat) S1
  | none => False
def tvRng2 (T : TAv) : TIv := fun ρ S Q => T ρ S fun ds S1 => match twoI ds with
  | some (i, j) => (-(2 ^ 62) ≤ i ∧ i < 2 ^ 62 ∧ -(2 ^ 62) ≤ j ∧ j < 2 ^ 62) ∧ Q (rngD i (j - i).toNat) S1
  | none => False
theorem i_rng1 {X : Cx} {tg a : Expr} {T : TAv} {p pos : Pos} (hg : Gl X "range") (hm : X.mg "range" = none) (ha : PA X [a] (upA X.K T)) (hs : starEach [a] X.env = [(false, eval a X.env)] := by rfl) : PI X tg (.Call (.Name "range" p) [a] [] pos) (upI X.K (tvRng1 T)) :=
  pi_imp (pi_range1 hg hm ha hs) fun σ H R ⟨Z, ρ, S, Qv, m, r, h, bk⟩ => ⟨Z, ρ, S, _, m, r, h, fun ds vs H1 S1 e1 m1 r1 h1 => by
    cases q : oneI ds with
    | none => rw [q] at h1; exact h1.elim
    | some j =>
      rw [q] at h1
      exact ⟨j, oneI_of q r1, h1.1.1, h1.1.2, bk (rngD 0 j.toNat) (Itr 0 j.toNat) H1 S1 e1 m1 itok_rng h1.2⟩⟩
theorem i_rng2 {X : Cx} {tg a c : Expr} {T : TAv} {p pos : Pos} (hg : Gl X "range") (hm : X.mg "range" = none) (ha : PA X [a, c] (upA X.K T)) (hs : starEach [a, c] X.env = [(false, eval a X.env), (false, eval c X.env)] := by rfl) (hs2 : starEach [c] X.env = [(false, eval c X.env)] := by rfl) :
    PI X tg (.Call (.Name "range" p) [a, c] [] pos) (upI X.K (tvRng2 T)) :=
  pi_imp (pi_range2 hg hm ha hs hs2) fun σ H R ⟨Z, ρ, S, Qv, m, r, h, bk⟩ => ⟨Z, ρ, S, _, m, r, h, fun ds vs H1 S1 e1 m1 r1 h1 => by
    cases q : twoI ds with
    | none => rw [q] at h1; exact h1.elim
    | some ij =>
      obtain ⟨i, j⟩ := ij
      rw [q] at h1
      exact ⟨i, j, twoI_of q r1, h1.1, bk (rngD i (j - i).toNat) (Itr i (j - i).toNat) H1 S1 e1 m1 itok_rng h1.2⟩⟩
end VL
namespace VL
open PySem PySem.Spec PyProof.Rows L2
def rvIx : R2v := fun x y S Q => match y with
  | .int i => match vw S x with
    | .str z => z.length ≤ sizeLine ∧ match atI z.cps.toList i with
      | some c => Q (.str ⟨#[c]⟩) S
      | none => False
    | d => match seqD d with
      | some xs => match atI xs i with
        | some e => Q e S
        | none => False
      | none => False
  | _ => False
theorem atI_rps {K : PySem.W.Frag} {H : Hp} {S : Own} {Z : Addr → Prop} {xs : List D} {vs : List V} {i : Int} {d : D} (r : Rps K H S Z xs vs) (h : atI xs i = some d) : ∃ v, atI vs i = some v ∧ Rp K H S Z d v := by
  unfold atI at h ⊢
  rw [r.len] at h
  cases e : ixN vs.length i with
  | none => rw [e] at h; cases h
  | some j =>
    rw [e] at h
    exact rps_getD r (by simpa using h)
section
variable {X : Cx}
theorem ixR_imp {r r' : R2} (h : IxR X r) (i : ∀ x y H Q, r' x y H Q → r x y H Q) : IxR X r' := fun value slice pins s σ H x y v u Q I rx ry q hs => h value slice pins s σ H x y v u Q I rx ry (i x y H Q q) hs
theorem ix_v : IxR X (up2 X.K rvIx) := ixR_imp ix_seq fun x y H Q ⟨Z, S, dx, dy, Qv, m, rx, ry, h, b⟩ => by
  cases dy <;> try exact h.elim
  rename_i i
  simp only [Rp] at ry
  have sq : ∀ xs, seqD (vw S dx) = some xs → (match atI xs i with | some e => Qv e S | none => False) → rIx X.K x y H Q := fun xs q h => by
    obtain ⟨a, vs, rfl, h1, h2⟩ := seq_of m rx q
    cases e : atI xs i with
    | none => rw [e] at h; exact h.elim
    | some d =>
      rw [e] at h
      obtain ⟨v, h3, h4⟩ := atI_rps h2 e
      rcases h1 with h1 | h1
      · exact .inl ⟨a, vs, i, v, rfl, ry, h1, h3, b d v H S .refl m h4 h⟩
      · exact .inr (.inl ⟨a, vs, i, v, rfl, ry, h1, h3, b d v H S .refl m h4 h⟩)
  dsimp only [rvIx] at h
  cases e : vw S dx <;> rw [e] at h <;> try exact h.elim
  · rcases vw_of m rx with ev | ⟨a, xs, vs, rfl, rfl, es, ev, h1, h2⟩
    · rw [ev] at e; subst e
      simp only [Rp] at rx
      rename_i z
      obtain ⟨hz, h⟩ := h
      cases ea : atI z.cps.toList i with
      | none => rw [ea] at h; exact h.elim
      | some c => rw [ea] at h; exact .inr (.inr ⟨z, i, c, rx, ry, hz, ea, b _ _ H S .refl m (by simp only [Rp]) h⟩)
    · rw [ev] at e; cases e
  · exact sq _ (by rw [e]; rfl) h
  · exact sq _ (by rw [e]; rfl) h
  · exact sq _ (by rw [e]; rfl) h
  · exact sq _ (by rw [e]; rfl) h
theorem v_ix {a c : Expr} {Ta Tb : TEv} {pos : Pos} (ha : PE X a (upE X.K Ta)) (hb : PE X c (upE X.K Tb)) (hs : PlainIx c := by exact fun _ _ => rfl) : PE X (.Subscript a c pos) (upE X.K (tvOp rvIx Ta Tb)) :=
  pe_imp (pe_ix ix_v ha hb hs) fun σ H Q ⟨Z, ρ, S, Qv, m, r, h, b⟩ =>
    ⟨Z, ρ, S, _, m, r, h, fun d v H1 S1 e1 m1 r1 h1 => ⟨Z, ρ, S1, _, m1, r.ext e1, h1, fun d2 v2 H2 S2 e2 m2 r2 h2 =>
      ⟨Z, S2, d, d2, Qv, m2, r1.ext e2, r2, h2, fun d3 v3 H3 S3 e3 m3 r3 h3 => b d3 v3 H3 S3 ((e1.trans e2).trans e3) m3 r3 h3⟩⟩⟩
end
def cutD (xs : List D) (lo hi : Option Int) : List D := (xs.drop (HT.sIx xs.length 0 lo)).take (HT.sIx xs.length xs.length hi - HT.sIx xs.length 0 lo)
abbrev TOv := VS → Own → (Option Int → Own → Prop) → Prop
def tvNoPart : TOv := fun _ S Q => Q none S
def tvPart (T : TEv) : TOv := fun ρ S Q => T ρ S fun d S1 => match d with
  | .int i => Q (some i) S1
  | _ => False
def upO (K : PySem.W.Frag) (T : TOv) : TO := fun σ H Q => ∃ Z ρ S Qv, Sim K H S Z ∧ RpL K H S Z ρ σ ∧ T ρ S Qv ∧ ∀ o H' S', Ext H S H' S' → Sim K H' S' Z → Qv o S' → Q o H'
def rvSl : D → Option Int → Option Int → Own → KE → Prop := fun x lo hi S Q => match vw S x with
  | .tup xs => Q (.tup (cutD xs lo hi)) S
  | .lst xs => Q (.lst (cutD xs lo hi)) S
  | _ => False
def upSl (K : PySem.W.Frag) (R : D → Option Int → Option Int → Own → KE → Prop) : V → Option Int → Option Int → Hp → VK → Prop := fun x lo hi H Q => ∃ Z S dx Qv, Sim K H S Z ∧ Rp K H S Z dx x ∧ R dx lo hi S Qv ∧
  ∀ d v H' S', Ext H S H' S' → Sim K H' S' Z → Rp K H' S' Z d v → Qv d S' → Q v H'
def tvSl (R : D → Option Int → Option Int → Own → KE → Prop) (T : TEv) (Tl Th : TOv) : TEv := fun ρ S Q => T ρ S fun d S1 => Tl ρ S1 fun l S2 => Th ρ S2 fun u S3 => R d l u S3 Q
theorem cut_rps {K : PySem.W.Frag} {H : Hp} {S : Own} {Z : Addr → Prop} {xs : List D} {vs : List V} (r : Rps K H S Z xs vs) (lo hi : Option Int) : Rps K H S Z (cutD xs lo hi) (cutV vs lo hi) := by
  unfold cutD cutV
  rw [r.len]
  exact rps_take _ (rps_drop _ r)
section
variable {X : Cx}
theorem po_imp {e : Option Expr} {t t' : TO} (h : PO X e t) (i : ∀ σ H Q, t' σ H Q → t σ H Q) : PO X e t' := ⟨fun pins s σ H Q I q => h.run pins s σ H Q I (i σ H Q q)⟩
theorem slR_imp {r r' : V → Option Int → Option Int → Hp → VK → Prop} (h : SlR X r) (i : ∀ x lo hi H Q, r' x lo hi H Q → r x lo hi H Q) : SlR X r' := fun pins s σ H x v vl vu lo hi sl Q I rx hs pl pu q => h pins s σ H x v vl vu lo hi sl Q I rx hs pl pu (i x lo hi H Q q)
theorem p_none : PO X none (upO X.K tvNoPart) := po_imp po_none fun σ H Q ⟨Z, ρ, S, Qv, m, r, h, b⟩ => b none H S .refl m h
theorem p_some {e : Expr} {T : TEv} (he : PE X e (upE X.K T)) : PO X (some e) (upO X.K (tvPart T)) := po_imp (po_some he) fun σ H Q ⟨Z, ρ, S, Qv, m, r, h, b⟩ => ⟨Z, ρ, S, _, m, r, h, fun d v H1 S1 e1 m1 r1 h1 => by
  cases d <;> try exact h1.elim
  simp only [Rp] at r1
  exact ⟨_, r1, b _ H1 S1 e1 m1 h1⟩⟩
theorem sl_v : SlR X (upSl X.K rvSl) := slR_imp (sl_tupF.or sl_list) fun x lo hi H Q ⟨Z, S, dx, Qv, m, rx, h, b⟩ => by
  have tu : ∀ a vs xs, x = .ref a → ((FT H a vs ∧ S a = none) ∨ KT X.K a vs) → Rps X.K H S Z xs vs → Qv (.tup (cutD xs lo hi)) S → rSlF X.K x lo hi H Q := fun a vs xs ex q1 q2 h => by
    subst ex
    refine ⟨a, vs, rfl, sqT_of q1, fun hw => ?_, fun _ p ob hd hp => b _ _ _ _ (ext_new m hp) (sim_new m hp) (new_tup m (cut_rps q2 lo hi) hp hd) h⟩
    have e : cutD xs lo hi = xs := by
      unfold cutD
      rw [q2.len, hw.1, hw.2, List.drop_zero, Nat.sub_zero, ← q2.len, List.take_length]
    rw [e] at h
    exact b _ _ H S .refl m (by simp only [Rp]; exact ⟨a, vs, rfl, q1, q2⟩) h
  unfold rvSl at h
  rcases vw_of m rx with ev | ⟨a, xs, vs, rfl, rfl, es, ev, h1, h2⟩
  · rw [ev] at h
    cases dx <;> try exact h.elim
    · simp only [Rp] at rx
      obtain ⟨a, vs, rfl, q1, q2⟩ := rx
      exact .inl (tu a vs _ rfl q1 q2 h)
    · simp only [Rp] at rx
      obtain ⟨a, vs, rfl, q1, _, _, q2⟩ := rx
      exact .inr ⟨a, vs, rfl, .of q1, fun p hp => b _ _ _ _ (ext_new m hp) (sim_new m hp) (new_lst m (cut_rps q2 lo hi) hp) h⟩
  · rw [ev] at h
    exact .inr ⟨a, vs, rfl, .of h1, fun p hp => b _ _ _ _ (ext_new m hp) (sim_new m hp) (new_lst m (cut_rps h2 lo hi) hp) h⟩
theorem v_sl {e : Expr} {lo hi : Option Expr} {T : TEv} {Tl Th : TOv} {pos p2 : Pos} (he : PE X e (upE X.K T)) (hl : PO X lo (upO X.K Tl)) (hu : PO X hi (upO X.K Th)) : PE X (.Subscript e (.Slice lo hi none p2) pos) (upE X.K (tvSl rvSl T Tl Th)) :=
  pe_imp (pe_slice sl_v he hl hu) fun σ H Q ⟨Z, ρ, S, Qv, m, r, h, b⟩ =>
    ⟨Z, ρ, S, _, m, r, h, fun d v H1 S1 e1 m1 r1 h1 => ⟨Z, ρ, S1, _, m1, r.ext e1, h1, fun o2 H2 S2 e2 m2 h2 => ⟨Z, ρ, S2, _, m2, (r.ext e1).ext e2, h2, fun o3 H3 S3 e3 m3 h3 =>
      ⟨Z, S3, d, Qv, m3, (r1.ext e2).ext e3, h3, fun d4 v4 H4 S4 e4 => b d4 v4 H4 S4 (((e1.trans e2).trans e3).trans e4)⟩⟩⟩⟩
def rvSet : D → D → D → Own → (Own → Prop) → Prop := fun o i v S Q => match o, i with
  | .ref p, .int k => match S p with
    | some (.lst xs) => match ixN xs.length k with
      | some j => Q (ust S p (.lst (xs.set j v)))
      | none => False
    | _ => False
  | _, _ => False
def tvSetIx (Te To Ti : TEv) : TSv := fun Dv ρ S => Te ρ S fun v S1 => To ρ S1 fun o S2 => Ti ρ S2 fun i S3 => rvSet o i v S3 fun S4 => Dv.nx ρ S4
theorem set_of {K : PySem.W.Frag} {H : Hp} {S : Own} {Z : Addr → Prop} {o i d : D} {x y v : V} {Qv : Own → Prop} {Q : Hp → Prop} (m : Sim K H S Z) (ro : Rp K H S Z o x) (ri : Rp K H S Z i y) (rv : Rp K H S Z d v) (h : rvSet o i d S Qv)
    (b : ∀ H' S', Ext H S H' S' → Sim K H' S' Z → Qv S' → Q H') : rSetL x y v H Q := by
  unfold rvSet at h
  cases o <;> try exact h.elim
  cases i <;> try exact h.elim
  rename_i p k
  simp only [Rp] at ro ri
  dsimp only at h
  cases e : S p with
  | none => rw [e] at h; exact h.elim
  | some ob =>
    rw [e] at h
    cases ob <;> try exact h.elim
    rename_i xs
    dsimp only at h
    obtain ⟨vs, h1, h2⟩ := m.lst e
    cases ej : ixN xs.length k with
    | none => rw [ej] at h; exact h.elim
    | some j =>
      rw [ej] at h
      have ex : Ext H S (upd H p (.lst (vs.set j v))) (ust S p (.lst (xs.set j d))) := ext_set m e
      exact ⟨p, vs, k, j, ro, ri, h1, by rw [← h2.len]; exact ej, b _ _ ex (sim_set m e (by simp only [RpO]; exact (rps_set h2 rv).ext ex)) h⟩
theorem s_setIx {o i e : Expr} {pos tpos : Pos} {Te To Ti : TEv} (he : PE X e (upE X.K Te)) (ho : PE X o (upE X.K To)) (hi : PE X i (upE X.K Ti))
    (h : PS X (.Assign [.Subscript o i tpos] e pos) (tAsg (upE X.K Te) (gSub (upE X.K To) (upE X.K Ti) rSetL))) : PS X (.Assign [.Subscript o i tpos] e pos) (upS X.K (tvSetIx Te To Ti)) :=
  ps_imp h fun E σ H ⟨Z, ρ, S, Dv, m, r, h, b⟩ => ⟨Z, ρ, S, _, m, r, h, fun d v H1 S1 e1 m1 r1 h1 => ⟨Z, ρ, S1, _, m1, r.ext e1, h1, fun d2 v2 H2 S2 e2 m2 r2 h2 =>
    ⟨Z, ρ, S2, _, m2, (r.ext e1).ext e2, h2, fun d3 v3 H3 S3 e3 m3 r3 h3 => set_of m3 (r2.ext e3) r3 ((r1.ext e2).ext e3) h3 fun H4 S4 e4 m4 h4 =>
      b.nx ρ σ H4 S4 (((e1.trans e2).trans e3).trans e4) m4 ((((r.ext e1).ext e2).ext e3).ext e4) h4⟩⟩⟩
end
def lenD (S : Own) (d : D) : Option Nat := match vw S d with
  | .str z => if z.length ≤ sizeLine then some z.length else none
  | d => (seqD d).map List.length
def rvLen : RAv := fun ds S Q => match ds with
  | [d] => match lenD S d with
    | some n => Q (.int n) S
    | none => False
  | _ => False
def rvInt1 (g : Int → D) (k : Bool → D) : RAv := fun ds S Q => match ds with
  | [.int i] => Q (g i) S
  | [.bl b] => Q (k b) S
  | _ => False
def rvII (g : Int → Int → D) : RAv := fun ds S Q => match twoI ds with
  | some (i, j) => Q (g i j) S
  | none => False
def rvI1 (g : Int → D) : RAv := fun ds S Q => match oneI ds with
  | some i => Q (g i) S
  | none => False
/-- list(x), tuple(x) -/
def rvList : RAv := fun ds S Q => match ds with
  | [d] => match seqD (vw S d) with
    | some xs => Q (.lst xs) S
    | none => False
  | _ => False
def rvTuple : RAv := fun ds S Q => match ds with
  | [d] => match vw S d with
    | .tup xs => Q (.tup xs) S
    | .lst xs => Q (.tup xs) S
    | _ => False
  | _ => False
def blsD : List D → Option (List Bool)
  | [] => some []
  | .bl b :: r => (blsD r).map (b :: ·)
  | _ => none
def intsD : List D → Option (List Int)
  | [] => some []
  | .int b :: r => (intsD r).map (b :: ·)
  | _ => none
theorem blsD_of : ∀ {ds : List D} {bs : List Bool}, blsD ds = some bs → ds = bs.map D.bl
  | [], bs, h => by simp only [blsD, Option.some.injEq] at h; subst h; rfl
  | d :: r, bs, h => by
    cases d <;> simp only [blsD] at h <;> try (cases h)
    cases e : blsD r with
    | none => rw [e] at h; cases h
    | some cs => rw [e] at h; cases h; rw [blsD_of e]; rfl
theorem intsD_of : ∀ {ds : List D} {bs : List Int}, intsD ds = some bs → ds = bs.map D.int
  | [], bs, h => by simp only [intsD, Option.some.injEq] at h; subst h; rfl
  | d :: r, bs, h => by
    cases d <;> simp only [intsD] at h <;> try (cases h)
    cases e : intsD r with
    | none => rw [e] at h; cases h
    | some cs => rw [e] at h; cases h; rw [intsD_of e]; rfl
theorem intsD_map (ns : List Int) : intsD (ns.map D.int) = some ns := by
  induction ns with
  | nil => rfl
  | cons n ns ih => simp only [List.map_cons, intsD, ih, Option.map_some]
theorem blsD_map (ns : List Bool) : blsD (ns.map D.bl) = some ns := by
  induction ns with
  | nil => rfl
  | cons n ns ih => simp only [List.map_cons, blsD, ih, Option.map_some]
/-- all(x), any(x), sum(x), max(x), min(x) of a list -/
def rvBls (g : List Bool → Bool) : RAv := fun ds S Q => match ds with
  | [d] => match (lstD (vw S d)).bind blsD with
    | some bs => Q (.bl (g bs)) S
    | none => False
  | _ => False
def rvSum : RAv := fun ds S Q => match ds with
  | [d] => match (lstD (vw S d)).bind intsD with
    | some ns => Q (.int ns.sum) S
    | none => False
  | _ => False
section
variable {X : Cx}
theorem one_rps {K : PySem.W.Frag} {H : Hp} {S : Own} {Z : Addr → Prop} {d : D} {vs : List V} (r : Rps K H S Z [d] vs) : ∃ v, vs = [v] ∧ Rp K H S Z d v := by
  simp only [Rps] at r
  obtain ⟨v, _, rfl, h, rfl⟩ := r
  exact ⟨v, rfl, h⟩
theorem c_len : CallR X (.builtin "len") (upC X.K rvLen) := callR_imp call_len fun xs H Q ⟨Z, S, ds, Qv, m, r, h, b⟩ => by
  unfold rvLen at h
  match ds, r, h with
  | [d], r, h =>
    obtain ⟨v, rfl, rv⟩ := one_rps r
    dsimp only at h
    unfold lenD at h
    refine ⟨v, ?_⟩
    have fin : ∀ ys, seqD (vw S d) = some ys → Qv (.int (ys.length : Nat)) S → ∃ n, [v] = [v] ∧ LenV X.K v H n ∧ Q (.int (n : Nat)) H := fun ys q hq => by
      obtain ⟨a, vs, rfl, h1, h2⟩ := seq_of m rv q
      refine ⟨ys.length, rfl, ?_, b _ _ H S .refl m (by simp only [Rp]) hq⟩
      rcases h1 with h1 | h1
      · exact .inl ⟨vs, h1, h2.len⟩
      · exact .inr ⟨vs, h1, h2.len⟩
    rcases vw_of m rv with ev | ⟨a, ys, vs, rfl, rfl, es, ev, h1, h2⟩
    · rw [ev] at h fin
      cases d <;> try exact h.elim
      · dsimp only at h
        simp only [Rp] at rv
        subst rv
        split at h
        · rename_i n hn
          split at hn
          · cases hn; exact ⟨_, rfl, ⟨by assumption, rfl⟩, b _ _ H S .refl m (by simp only [Rp]) h⟩
          · cases hn
        · exact h.elim
      all_goals exact fin _ rfl h
    · rw [ev] at h fin
      exact fin _ rfl h
theorem c_int : CallR X (.type "int") (upC X.K (rvInt1 (fun i => .int i) fun k => .int (if k then 1 else 0))) := callR_imp call_int1 fun xs H Q ⟨Z, S, ds, Qv, m, r, h, b⟩ => by
  cases ds with
  | nil => exact h.elim
  | cons d t =>
    cases t with
    | cons _ _ => cases d <;> exact h.elim
    | nil =>
      obtain ⟨v, rfl, rv⟩ := one_rps r
      cases d <;> try exact h.elim
      · simp only [Rp] at rv; subst rv
        exact .inr ⟨_, rfl, b _ _ H S .refl m (by simp only [Rp]) h⟩
      · simp only [Rp] at rv; subst rv
        exact .inl ⟨_, rfl, b _ _ H S .refl m (by simp only [Rp]) h⟩
theorem c_abs : CallR X (.builtin "abs") (upC X.K (rvI1 fun i => .int (if i < 0 then -i else i))) := callR_imp call_abs fun xs H Q ⟨Z, S, ds, Qv, m, r, h, b⟩ => by
  unfold rvI1 at h
  cases q : oneI ds with
  | none => rw [q] at h; exact h.elim
  | some i => rw [q] at h; exact ⟨i, oneI_of q r, b _ _ H S .refl m (by simp only [Rp]) h⟩
theorem c_max2 (hc : X.calm = true) : CallR X (.builtin "max") (upC X.K (rvII fun i j => .int (if j > i then j else i))) := callR_imp (call_max2 hc) fun xs H Q ⟨Z, S, ds, Qv, m, r, h, b⟩ => by
  unfold rvII at h
  cases q : twoI ds with
  | none => rw [q] at h; exact h.elim
  | some ij => rw [q] at h; exact ⟨ij.1, ij.2, twoI_of q r, b _ _ H S .refl m (by simp only [Rp]) h⟩
theorem c_min2 (hc : X.calm = true) : CallR X (.builtin "min") (upC X.K (rvII fun i j => .int (if j < i then j else i))) := callR_imp (call_min2 hc) fun xs H Q ⟨Z, S, ds, Qv, m, r, h, b⟩ => by
  unfold rvII at h
  cases q : twoI ds with
  | none => rw [q] at h; exact h.elim
  | some ij => rw [q] at h; exact ⟨ij.1, ij.2, twoI_of q r, b _ _ H S .refl m (by simp only [Rp]) h⟩
theorem c_list : CallR X (.type "list") (upC X.K rvList) := callR_imp call_list_of fun xs H Q ⟨Z, S, ds, Qv, m, r, h, b⟩ => by
  unfold rvList at h
  match ds, r, h with
  | [d], r, h =>
    obtain ⟨v, rfl, rv⟩ := one_rps r
    dsimp only at h
    cases q : seqD (vw S d) with
    | none => rw [q] at h; exact h.elim
    | some ys =>
      rw [q] at h
      obtain ⟨a, vs, rfl, h1, h2⟩ := seq_of m rv q
      exact ⟨a, vs, rfl, h1, fun p hp => b _ _ _ _ (ext_new m hp) (sim_new m hp) (new_lst m h2 hp) h⟩
theorem c_tuple : CallR X (.type "tuple") (upC X.K rvTuple) := callR_imp call_tuple_ofF fun xs H Q ⟨Z, S, ds, Qv, m, r, h, b⟩ => by
  unfold rvTuple at h
  match ds, r, h with
  | [d], r, h =>
    obtain ⟨v, rfl, rv⟩ := one_rps r
    dsimp only at h
    rcases vw_of m rv with ev | ⟨a, ys, vs, rfl, rfl, es, ev, h1, h2⟩
    · rw [ev] at h
      cases d <;> try exact h.elim
      · have rv2 := rv
        simp only [Rp] at rv
        obtain ⟨a, vs, rfl, q1, q2⟩ := rv
        exact ⟨a, vs, rfl, .inr ⟨sqT_of q1, b _ _ H S .refl m rv2 h⟩⟩
      · simp only [Rp] at rv
        obtain ⟨a, vs, rfl, q1, _, _, q2⟩ := rv
        exact ⟨a, vs, rfl, .inl ⟨.of q1, fun p ob hd hp => b _ _ _ _ (ext_new m hp) (sim_new m hp) (new_tup m q2 hp hd) h⟩⟩
    · rw [ev] at h
      exact ⟨a, vs, rfl, .inl ⟨.of h1, fun p ob hd hp => b _ _ _ _ (ext_new m hp) (sim_new m hp) (new_tup m h2 hp hd) h⟩⟩
theorem c_all (hc : X.calm = true) : CallR X (.builtin "all") (upC X.K (rvBls fun bs => bs.all id)) := callR_imp (cr_all hc) fun xs H Q ⟨Z, S, ds, Qv, m, r, h, b⟩ => by
  unfold rvBls at h
  match ds, r, h with
  | [d], r, h =>
    obtain ⟨v, rfl, rv⟩ := one_rps r
    dsimp only at h
    cases q : lstD (vw S d) with
    | none => rw [q] at h; exact h.elim
    | some ys =>
      rw [q] at h
      dsimp only [Option.bind] at h
      obtain ⟨a, vs, rfl, h1, h2⟩ := lst_of m rv q
      cases q2 : blsD ys with
      | none => rw [q2] at h; exact h.elim
      | some bs =>
        rw [q2] at h
        rw [blsD_of q2] at h2
        rw [rps_bls h2] at h1
        exact ⟨a, bs, rfl, h1, b _ _ H S .refl m (by simp only [Rp]) h⟩
theorem c_any (hc : X.calm = true) : CallR X (.builtin "any") (upC X.K (rvBls fun bs => bs.any id)) := callR_imp (cr_any hc) fun xs H Q ⟨Z, S, ds, Qv, m, r, h, b⟩ => by
  unfold rvBls at h
  match ds, r, h with
  | [d], r, h =>
    obtain ⟨v, rfl, rv⟩ := one_rps r
    dsimp only at h
    cases q : lstD (vw S d) with
    | none => rw [q] at h; exact h.elim
    | some ys =>
      rw [q] at h
      dsimp only [Option.bind] at h
      obtain ⟨a, vs, rfl, h1, h2⟩ := lst_of m rv q
      cases q2 : blsD ys with
      | none => rw [q2] at h; exact h.elim
      | some bs =>
        rw [q2] at h
        rw [blsD_of q2] at h2
        rw [rps_bls h2] at h1
        exact ⟨a, bs, rfl, h1, b _ _ H S .refl m (by simp only [Rp]) h⟩
theorem c_sum (hc : X.calm = true) : CallR X (.builtin "sum") (upC X.K rvSum) := callR_imp (cr_sum hc) fun xs H Q ⟨Z, S, ds, Qv, m, r, h, b⟩ => by
  unfold rvSum at h
  match ds, r, h with
  | [d], r, h =>
    obtain ⟨v, rfl, rv⟩ := one_rps r
    dsimp only at h
    cases q : lstD (vw S d) with
    | none => rw [q] at h; exact h.elim
    | some ys =>
      rw [q] at h
      dsimp only [Option.bind] at h
      obtain ⟨a, vs, rfl, h1, h2⟩ := lst_of m rv q
      cases q2 : intsD ys with
      | none => rw [q2] at h; exact h.elim
      | some bs =>
        rw [q2] at h
        rw [intsD_of q2] at h2
        rw [rps_ints h2] at h1
        exact ⟨a, bs, rfl, h1, b _ _ H S .refl m (by simp only [Rp]) h⟩
end
end VL
namespace VL
open PySem PySem.Spec PyProof.Rows L2
def tyN : D → Option String
  | .non => some "NoneType"
  | .bl _ => some "bool"
  | .int _ => some "int"
  | .str _ => some "str"
  | .tup _ => some "tuple"
  | .tuq _ => some "tuple"
  | .lst _ => some "list"
  | .scr _ => some "list"
  | _ => none
def isInt : D → Bool
  | .int _ => true
  | .bl _ => true
  | _ => false
def isBool : D → Bool
  | .bl _ => true
  | _ => false
def isTup : D → Bool
  | .tup _ => true
  | .tuq _ => true
  | _ => false
def isStr : D → Bool
  | .str _ => true
  | _ => false
structure IsF (T : String) (f : D → Bool) : Prop where
  ok : ∀ d n, tyN d = some n → kitB n T = some (f d)
theorem isf_int : IsF "int" isInt := ⟨fun d n h => by cases d <;> simp only [tyN] at h <;> cases h <;> simp only [isInt] <;> decide +kernel⟩
theorem isf_bool : IsF "bool" isBool := ⟨fun d n h => by cases d <;> simp only [tyN] at h <;> cases h <;> simp only [isBool] <;> decide +kernel⟩
theorem isf_tuple : IsF "tuple" isTup := ⟨fun d n h => by cases d <;> simp only [tyN] at h <;> cases h <;> simp only [isTup] <;> decide +kernel⟩
theorem isf_str : IsF "str" isStr := ⟨fun d n h => by cases d <;> simp only [tyN] at h <;> cases h <;> simp only [isStr] <;> decide +kernel⟩
theorem ty_of {K : PySem.W.Frag} {H : Hp} {S : Own} {Z : Addr → Prop} {d : D} {v : V} {n : String} (m : Sim K H S Z) (r : Rp K H S Z d v) (h : tyN (vw S d) = some n) : TyX K H v (.type n) := by
  rcases vw_of m r with ev | ⟨a, ys, vs, rfl, rfl, es, ev, h1, h2⟩
  · rw [ev] at h
    cases d <;> simp only [tyN] at h <;> cases h <;> simp only [Rp] at r
    · subst r; exact .base .non
    · subst r; exact .base (.bl _)
    · subst r; exact .base (.int _)
    · subst r; exact .base (.str _)
    · obtain ⟨a, vs, rfl, h1, h2⟩ := r
      rcases h1 with ⟨⟨ob, h1, _⟩, _⟩ | ⟨o, its, k, h1, h2, _⟩
      · exact .fTuple h1
      · exact .kTuple h1 h2
    · obtain ⟨a, vs, rfl, h1, h2⟩ := r
      exact .base (.lst h1)
    · obtain ⟨a, vs, rfl, h1, h2⟩ := r
      rcases h1 with ⟨h1 | ⟨o, h1⟩, _⟩ | ⟨o, its, k, h1, h2, _⟩
      · exact .base (.lst h1)
      · exact .base (.frz h1)
      · exact .kList h1 h2
    · obtain ⟨a, vs, rfl, ⟨h1 | ⟨o, h1⟩, _⟩, h2⟩ := r
      · exact .base (.tup h1)
      · exact .fTuple h1
  · rw [ev] at h
    simp only [tyN] at h; cases h
    exact .base (.lst h1)
section
variable {X : Cx}
/-- isinstance(x, T) as an expression -/
def tvIsi (f : D → Bool) (Te : TEv) : TEv := fun ρ S Q => Te ρ S fun d S1 => match tyN (vw S1 d) with
  | some _ => Q (.bl (f (vw S1 d))) S1
  | none => False
theorem v_isi {T : String} {f : D → Bool} {e : Expr} {Te : TEv} {p p2 pos : Pos} (F : IsF T f) (hg : Gl X "isinstance") (hm : X.mg "isinstance" = none) (hg2 : Gl X T) (hm2 : X.mg T = none) (hb : bootBuiltins T = some (.type T)) (he : PE X e (upE X.K Te))
    (hn : (Str.ofString T) ≠ "__name__" := by decide) (hdb : ((Str.ofString T) == ("__debug__" : Str)) = false := by decide)
    (hs : starEach [e, .Name T p2] X.env = (false, eval e X.env) :: starEach [.Name T p2] X.env := by rfl) (hpl : (backTo pos (starEach [.Name T p2] X.env)).any (·.1) = false := by rfl)
    (hs2 : starEach [.Name T p2] X.env = (false, eval (.Name T p2) X.env) :: starEach [] X.env := by rfl) : PE X (.Call (.Name "isinstance" p) [e, .Name T p2] [] pos) (upE X.K (tvIsi f Te)) :=
  pe_imp (pe_callB call_isi hg hm boot_isinstance (pa_cons he (pa_cons (pe_bltn (v := .ty T) hg2 hm2 hb rfl hn hdb) pa_nil hs2) hs) (by decide) (by decide) hs hpl) fun σ H Q ⟨Z, ρ, S, Qv, m, r, h, b⟩ =>
    ⟨Z, ρ, S, _, m, r, h, fun d v H1 S1 e1 m1 r1 h1 => by
      cases q : tyN (vw S1 d) with
      | none => rw [q] at h1; exact h1.elim
      | some n =>
        rw [q] at h1
        exact ⟨v, .ty T, .type n, .type T, f (vw S1 d), rfl, .ty T, ty_of m1 r1 q, kit_ty (F.ok _ _ q), b _ _ H1 S1 e1 m1 (by simp only [Rp]) h1⟩⟩
end
def RcvOk (X : Cx) (T : String) (rc : D → Own → Prop) : Prop := ∀ (pins : List (Addr × Obj)) (s : Shared) (σ : L2.St) (H : Hp) (S : Own) (Z : Addr → Prop) (d : D) (x : V) (v : Value), L2.Inv X pins σ H s → Sim X.K H S Z → Rp X.K H S Z d x → RelV x v → rc d S →
  s.TypeIs v T ∧ ∀ a, v = .ref a → ∃ ob, s.heap.get? a = some ob ∧ ob.dict = none
def rcL : D → Own → Prop := fun d S => (lstD (vw S d)).isSome = true
def rcT : D → Own → Prop := fun d _ => match d with
  | .tup _ => True
  | _ => False
def rcS : D → Own → Prop := fun d _ => match d with
  | .str _ => True
  | _ => False
def tvBMr (rc : D → Own → Prop) (R : D → RAv) (To : TEv) (T : TAv) : TEv := fun ρ S Q => To ρ S fun x S1 => rc x S1 ∧ T ρ S1 fun ds S2 => R x ds S2 Q
section
variable {X : Cx}
theorem rcL_ok : RcvOk X "list" rcL := fun pins s σ H S Z d x v I m r rv h => by
  unfold rcL at h
  cases q : lstD (vw S d) with
  | none => rw [q] at h; cases h
  | some xs =>
    obtain ⟨a, vs, rfl, h1, h2⟩ := lst_of m r q
    exact tyV_is I rv (.inl ⟨rfl, vs, h1⟩)
theorem rcT_ok : RcvOk X "tuple" rcT := fun pins s σ H S Z d x v I m r rv h => by
  cases d <;> try exact h.elim
  simp only [Rp] at r
  obtain ⟨a, vs, rfl, h1, h2⟩ := r
  cases rv
  rcases h1 with ⟨⟨ob, h1, hd⟩, _⟩ | ⟨o, its, n, h1, h2, h3, _⟩
  · obtain ⟨g1, _, its, rv, o', g2, c, _⟩ := I.hok a _ h1
    rw [g1] at g2; cases g2
    exact ⟨⟨ob, g1, c⟩, fun b e => by cases e; exact ⟨ob, g1, hd⟩⟩
  · exact ⟨⟨o, I.kIn a o h1, h2⟩, fun b e => by cases e; exact ⟨o, I.kIn a o h1, h3⟩⟩
theorem rcS_ok : RcvOk X "str" rcS := fun pins s σ H S Z d x v I m r rv h => by
  cases d <;> try exact h.elim
  simp only [Rp] at r
  subst r
  exact tyV_is I rv rfl
theorem v_bm {o e : Expr} {es : List Expr} {To : TEv} {Ta : TAv} {name : Str} {apos cpos : Pos} {T id : String} {rc : D → Own → Prop} {R : D → RAv} (pa : PlainAttrs T) (slot : Slot T name id) (hty : typeOf (.builtin id) = pure (.type "method_descriptor")) (hrc : RcvOk X T rc) (hm : MtR X id (upM X.K R))
    (ho : PE X o (upE X.K To)) (ha : PA X (e :: es) (upA X.K Ta))
    (hbase : attributeBase o name X.env (eval o X.env) = eval o X.env := by rfl)
    (hfew : ((backTo cpos (starEach (e :: es) X.env)).all (fun x => !x.1) && (backToKw cpos (keywordEach [] X.env)).all (fun x => x.1.isSome)
      && decide ((e :: es).length + ([] : List Keyword).length + (if ([] : List Keyword).isEmpty then 0 else 1) < 30)) = true := by rfl)
    (hline : (apos.endLine == cpos.line) = true := by rfl) (hs : starEach (e :: es) X.env = (false, eval e X.env) :: starEach es X.env := by rfl) (hplain : (backTo cpos (starEach es X.env)).any (·.1) = false := by rfl) :
    PE X (.Call (.Attribute o name apos) (e :: es) [] cpos) (upE X.K (tvBMr rc R To Ta)) := by
  refine ⟨fun pins s σ H Q I h => ?_⟩
  obtain ⟨Z, ρ, S, Qv, m, r, h, b⟩ := h
  refine wpAny_Call_method_late hbase hfew hline rfl (thn (ho.run pins s σ H (fun x H1 => ∃ d S1, Ext H S H1 S1 ∧ Sim X.K H1 S1 Z ∧ Rp X.K H1 S1 Z d x ∧ rc d S1 ∧ Ta ρ S1 fun ds S2 => R d ds S2 Qv) I
    ⟨Z, ρ, S, _, m, r, h, fun d v H1 S1 e1 m1 r1 h1 => ⟨d, S1, e1, m1, r1, h1.1, h1.2⟩⟩) fun v s1 ⟨x, H1, I1, rr, d, S1, e1, m1, r1, hc, h1⟩ => ?_)
  obtain ⟨t1, t2⟩ := hrc pins s1 σ H1 S1 Z d x v I1 m1 r1 rr hc
  refine ⟨T, id, pa, slot, hty, t1, t2, ?_⟩
  have hA := ha.run cpos pins s1 σ H1 (fun vs H2 => upM X.K R x vs H2 Q) I1 ⟨Z, ρ, S1, _, m1, r.ext e1, h1, fun ds vs H2 S2 e2 m2 r2 h2 => ⟨Z, S2, d, ds, Qv, m2, r1.ext e2, r2, h2, fun d3 v3 H3 S3 e3 => b d3 v3 H3 S3 ((e1.trans e2).trans e3)⟩⟩
  rw [hs] at hA ⊢
  refine Calls.callWith_builtin (by show (false || (backTo cpos (starEach es X.env)).any (·.1)) = false; rw [hplain] <;> rfl) (Calls.evalArgs_plain ?_)
  exact thn hA fun us s2 ⟨vs, H2, I2, r2, q2⟩ => hm pins s2 σ H2 x vs v us Q I2 rr r2 q2
theorem v_bm0 {o : Expr} {To : TEv} {name : Str} {apos cpos : Pos} {T id : String} {rc : D → Own → Prop} {R : D → RAv} (pa : PlainAttrs T) (slot : Slot T name id) (hty : typeOf (.builtin id) = pure (.type "method_descriptor")) (hrc : RcvOk X T rc) (hm : MtR X id (upM X.K R))
    (ho : PE X o (upE X.K To))
    (hbase : attributeBase o name X.env (eval o X.env) = eval o X.env := by rfl) (hline : (apos.endLine == cpos.line) = true := by rfl) : PE X (.Call (.Attribute o name apos) [] [] cpos) (upE X.K (tvBMr rc R To tvNil)) := by
  refine ⟨fun pins s σ H Q I h => ?_⟩
  obtain ⟨Z, ρ, S, Qv, m, r, h, b⟩ := h
  refine wpAny_Call_method0_late hbase hline (thn (ho.run pins s σ H (fun x H1 => ∃ d S1, Ext H S H1 S1 ∧ Sim X.K H1 S1 Z ∧ Rp X.K H1 S1 Z d x ∧ rc d S1 ∧ R d [] S1 Qv) I
    ⟨Z, ρ, S, _, m, r, h, fun d v H1 S1 e1 m1 r1 h1 => ⟨d, S1, e1, m1, r1, h1.1, h1.2⟩⟩) fun v s1 ⟨x, H1, I1, rr, d, S1, e1, m1, r1, hc, h1⟩ => ?_)
  obtain ⟨t1, t2⟩ := hrc pins s1 σ H1 S1 Z d x v I1 m1 r1 rr hc
  exact ⟨T, id, pa, slot, hty, t1, t2, Calls.callWith_builtin rfl (PySem.evalArgs_none (hm pins s1 σ H1 x [] v [] Q I1 rr .nil ⟨Z, S1, d, [], Qv, m1, r1, rps_nil, h1, fun d3 v3 H3 S3 e3 => b d3 v3 H3 S3 (e1.trans e3)⟩))⟩
theorem mtR_imp {id : String} {r r' : V → List V → Hp → VK → Prop} (h : MtR X id r) (i : ∀ x xs H Q, r' x xs H Q → r x xs H Q) : MtR X id r' := fun pins s σ H x xs v us Q I rx rs q => h pins s σ H x xs v us Q I rx rs (i x xs H Q q)
/-- what is owned at x -/
def ownL (S : Own) : D → Option (Addr × List D)
  | .ref p => match S p with
    | some (.lst xs) => some (p, xs)
    | _ => none
  | _ => none
theorem ownL_of {K : PySem.W.Frag} {H : Hp} {S : Own} {Z : Addr → Prop} {d : D} {x : V} {p : Addr} {xs : List D} (m : Sim K H S Z) (r : Rp K H S Z d x) (h : ownL S d = some (p, xs)) : x = .ref p ∧ S p = some (.lst xs) ∧ ∃ vs, H p = some (.lst vs) ∧ Rps K H S Z xs vs := by
  cases d <;> simp only [ownL] at h <;> try (cases h)
  simp only [Rp] at r
  split at h
  · rename_i ys e
    cases h
    exact ⟨r, e, m.lst e⟩
  · cases h
def rvApp : D → RAv := fun x ds S Q => match ownL S x, ds with
  | some (p, xs), [d] => xs.length < sizeLine ∧ Q .non (ust S p (.lst (xs ++ [d])))
  | _, _ => False
def rvExt : D → RAv := fun x ds S Q => match ownL S x, ds with
  | some (p, xs), [.lst ys] => xs.length + ys.length ≤ sizeLine ∧ Q .non (ust S p (.lst (xs ++ ys)))
  | _, _ => False
def rvPop : D → RAv := fun x ds S Q => match ownL S x, ds with
  | some (p, xs), [] => match xs[xs.length - 1]? with
    | some d => Q d (ust S p (.lst xs.dropLast))
    | none => False
  | _, _ => False
def rvPopAt : D → RAv := fun x ds S Q => match ownL S x, ds with
  | some (p, xs), [.int i] => match ixN xs.length i with
    | some k => xs.length < 2 ^ 63 ∧ match xs[k]? with
      | some d => Q d (ust S p (.lst (xs.eraseIdx k)))
      | none => False
    | none => False
  | _, _ => False
def rvCount : D → RAv := fun x ds S Q => match toP (vw S x), ds with
  | some (.list ps), [d] => match toP d with
    | some p => p.depth ≤ 190 ∧ Q (.int ((ps.countP fun y => PyData.eqv y p : Nat) : Int)) S
    | none => False
  | some (.tuple ps), [d] => match toP d with
    | some p => p.depth ≤ 190 ∧ Q (.int ((ps.countP fun y => PyData.eqv y p : Nat) : Int)) S
    | none => False
  | _, _ => False
theorem own_set {K : PySem.W.Frag} {H : Hp} {S : Own} {Z : Addr → Prop} {p : Addr} {xs ys : List D} {ws : List V} (m : Sim K H S Z) (h : S p = some (.lst xs)) (r : Rps K H S Z ys ws) :
    Ext H S (upd H p (.lst ws)) (ust S p (.lst ys)) ∧ Sim K (upd H p (.lst ws)) (ust S p (.lst ys)) Z := by
  have ex : Ext H S (upd H p (.lst ws)) (ust S p (.lst ys)) := ext_set m h
  exact ⟨ex, sim_set m h (by simp only [RpO]; exact r.ext ex)⟩
theorem m_app : MtR X "list.append" (upM X.K rvApp) := mtR_imp mt_append fun x xs H Q ⟨Z, S, dx, ds, Qv, m, rx, rs, h, b⟩ => by
  unfold rvApp at h
  split at h
  · rename_i p ys d e
    obtain ⟨rfl, hS, vs, h1, h2⟩ := ownL_of m rx e
    obtain ⟨v, rfl, rv⟩ := one_rps rs
    obtain ⟨ex, sm⟩ := own_set m hS (rps_append h2 (rps_cons rv rps_nil))
    exact ⟨p, vs, v, rfl, rfl, h1, by rw [← h2.len]; exact h.1, b _ _ _ _ ex sm (by simp only [Rp]) h.2⟩
  · exact h.elim
theorem m_ext : MtR X "list.extend" (upM X.K rvExt) := mtR_imp mt_extend fun x xs H Q ⟨Z, S, dx, ds, Qv, m, rx, rs, h, b⟩ => by
  unfold rvExt at h
  split at h
  · rename_i p ys zs e
    obtain ⟨rfl, hS, vs, h1, h2⟩ := ownL_of m rx e
    obtain ⟨v, rfl, rv⟩ := one_rps rs
    simp only [Rp] at rv
    obtain ⟨a, ws, rfl, q1, _, _, q2⟩ := rv
    obtain ⟨ex, sm⟩ := own_set m hS (rps_append h2 q2)
    exact ⟨p, a, vs, ws, rfl, rfl, h1, q1, by rw [← h2.len, ← q2.len]; exact h.1, b _ _ _ _ ex sm (by simp only [Rp]) h.2⟩
  · exact h.elim
theorem m_pop : MtR X "list.pop" (upM X.K rvPop) := mtR_imp mt_pop fun x xs H Q ⟨Z, S, dx, ds, Qv, m, rx, rs, h, b⟩ => by
  unfold rvPop at h
  split at h
  · rename_i p ys e
    obtain ⟨rfl, hS, vs, h1, h2⟩ := ownL_of m rx e
    simp only [Rps] at rs
    split at h
    · rename_i d hd
      obtain ⟨v, hv, rv⟩ := rps_getD h2 hd
      have hl : Rps X.K H S Z ys.dropLast vs.dropLast := by
        rw [List.dropLast_eq_take, List.dropLast_eq_take, h2.len]; exact rps_take _ h2
      obtain ⟨ex, sm⟩ := own_set m hS hl
      exact ⟨p, vs, v, rfl, rs, h1, by rw [← h2.len]; exact hv, b _ _ _ _ ex sm (rv.ext ex) h⟩
    · exact h.elim
  · exact h.elim
theorem m_popAt : MtR X "list.pop" (upM X.K rvPopAt) := mtR_imp mt_popAt fun x xs H Q ⟨Z, S, dx, ds, Qv, m, rx, rs, h, b⟩ => by
  unfold rvPopAt at h
  split at h
  · rename_i p ys i e
    obtain ⟨rfl, hS, vs, h1, h2⟩ := ownL_of m rx e
    obtain ⟨w, rfl, rw'⟩ := one_rps rs
    simp only [Rp] at rw'
    split at h
    · rename_i k hk
      obtain ⟨hz, h⟩ := h
      split at h
      · rename_i d hd
        obtain ⟨v, hv, rv⟩ := rps_getD h2 hd
        obtain ⟨ex, sm⟩ := own_set m hS (rps_erase k h2)
        obtain ⟨j1, j2, j3, j4⟩ := ixN_seq hk
        refine ⟨p, vs, i, k, v, rfl, by rw [rw'], h1, by omega, by omega, by rw [← h2.len]; exact j1, hv, b _ _ _ _ ex sm (rv.ext ex) h⟩
      · exact h.elim
    · exact h.elim
  · exact h.elim
theorem reads_of {pins : List (Addr × Obj)} {s : Shared} {σ : L2.St} {H : Hp} {S : Own} {Z : Addr → Prop} {d : D} {x : V} {v : Value} {p : PyData} (I : L2.Inv X pins σ H s) (m : Sim X.K H S Z) (r : Rp X.K H S Z d x) (rv : RelV x v) (h : toP (vw S d) = some p) : ∃ as, Reads s.heap v p as :=
  Dp.reads I p x v (dp_vw m r h) rv
theorem m_countT (hu : X.A.units + 200 < cLine) : MtR X "tuple.count" (upM X.K fun x ds S Q => isTup (vw S x) = true ∧ rvCount x ds S Q) := by
  intro pins s σ H x xs v us Q I rx rs ⟨Z, S, dx, ds, Qv, m, qx, qs, ⟨hl, h⟩, b⟩
  unfold rvCount at h
  split at h
  · rename_i ps d e
    exfalso
    cases q : vw S dx <;> rw [q] at e hl <;> simp only [toP, isTup] at e hl <;> try (cases hl)
    all_goals (split at e <;> cases e)
  · rename_i ps d e
    obtain ⟨y, rfl, ry⟩ := one_rps qs
    obtain ⟨u, rfl, ru⟩ := vals1 rs
    split at h
    · rename_i p hp
      have hvp : toP (vw S d) = some p := by cases d <;> first | exact hp | (simp [toP] at hp)
      obtain ⟨as, r1⟩ := reads_of I m qx rx e
      obtain ⟨bs, r2⟩ := reads_of I m ry ru hvp
      have pl := toP_plain _ _ e
      cases r1 with
      | tuple h1 h2 h3 h4 =>
        exact SeqAt.count_tuple_data ⟨_, h1, h2, _, h3⟩ h4 r2 pl (toP_plain _ _ hp) (by have := h.1; have := Nat.min_le_right (PyData.depthAll ps) p.depth; omega) ⟨.int _, H, I.tok _, ⟨_, rfl⟩, b _ _ H S .refl m (by simp only [Rp]) h.2⟩
    · exact h.elim
  · exact h.elim
end
abbrev FS := List D → Own → KE → Prop
def spV (K : PySem.W.Frag) (F : FS) : Sp := fun vs H Q _ => ∃ Z S ds Qv, Sim K H S Z ∧ Rps K H S Z ds vs ∧ F ds S Qv ∧
  ∀ d v H' S', Ext H S H' S' → Sim K H' S' Z → Rp K H' S' Z d v → Qv d S' → Q v H'
def tvCall (F : FS) (T : TAv) : TEv := fun ρ S Q => T ρ S fun ds S1 => F ds S1 Q
/-- what a def hands back: some of what is owned may be let go; a list of its own may be told as one that stays -/
def fin (Qv : KE) : KE := fun d S' => ∃ S'', Sub S'' S' ∧ (Qv d S'' ∨ ∃ p xs, d = .ref p ∧ S' p = some (.lst xs) ∧ S'' p = none ∧ Qv (.lst xs) S'')
def endsV (Qv : KE) : EndsV := { nx := fun _ S' => fin Qv .non S', rt := fin Qv }
def stD (n : Nat) (ds : List D) : VS := ds.map some ++ List.replicate (n - ds.length) none
theorem nth_eq : ∀ (ρ : VS) (i : Nat), nth ρ i = (ρ[i]?).join
  | [], i => by simp [nth]
  | x :: r, 0 => by cases x <;> rfl
  | x :: r, i + 1 => by simp only [nth, List.getElem?_cons_succ]; exact nth_eq r i
theorem start_rpl {K : PySem.W.Frag} {H : Hp} {S : Own} {Z : Addr → Prop} {N : List Str} {ds : List D} {vs : List V} (r : Rps K H S Z ds vs) : RpL K H S Z (stD N.length ds) (L2.start N vs) := by
  have hl := r.len
  refine ⟨by simp only [stD, L2.start, List.length_append, List.length_map, List.length_replicate, hl], fun i d h => ?_⟩
  rw [nth_eq] at h
  unfold stD at h
  by_cases hi : i < ds.length
  · rw [List.getElem?_append_left (by simpa using hi), List.getElem?_map] at h
    cases e : ds[i]? with
    | none => rw [e] at h; simp at h
    | some d' =>
      rw [e] at h
      simp at h; subst h
      obtain ⟨v, h1, h2⟩ := rps_getD r e
      refine ⟨v, ?_, h2⟩
      unfold L2.start
      rw [List.getElem?_append_left (by simp; omega), List.getElem?_map, h1]
      rfl
  · rw [List.getElem?_append_right (by simp; omega)] at h
    rw [List.getElem?_replicate] at h
    split at h <;> simp at h
theorem rp_fin {K : PySem.W.Frag} {H : Hp} {S : Own} {Z : Addr → Prop} {Qv : KE} {d : D} {v : V} (m : Sim K H S Z) (r : Rp K H S Z d v) (h : fin Qv d S) : ∃ d' S', Ext H S H S' ∧ Sim K H S' Z ∧ Rp K H S' Z d' v ∧ Qv d' S' := by
  obtain ⟨S', hs, h⟩ := h
  rcases h with h | ⟨p, xs, rfl, h1, h2, h⟩
  · exact ⟨d, S', ext_sub hs, sim_sub m hs, r.ext (ext_sub hs), h⟩
  · obtain ⟨z, ho, h3, h4⟩ := m.own p _ h1
    cases ho <;> simp only [RpO] at h4
    simp only [Rp] at r
    subst r
    exact ⟨.lst xs, S', ext_sub hs, sim_sub m hs, rp_lst h3 h2 z (h4.ext (ext_sub hs)), h⟩
section
variable {P : Program} {w : World} {K : PySem.W.Frag} {mg : Str → Option Value} {base : Heap}
theorem def_ok {x qual : Str} {st : Stmt} {f : Addr} {fd : FuncData} {N ps : List Str} {k : Nat} {F : FS} {T : TSv} (Fn : Fun K x qual st f fd) (sc : FnScope N ps (defScope st)) (len : ∀ ds S Q, F ds S Q → ds.length = ps.length)
    (body : ∀ (cdv : Value) (A : Around) (outer : List Env) (s : Shared) (H : Hp) (E : XK), Room k (A.deeper (envOfC qual (defScope st) s.heap.objs.size f cdv)) →
      PSs (cxOf CX0 P w K mg base N qual (defScope st) f cdv A outer s H E).nox (defBody st) (upS K T))
    (hT : ∀ ds S Qv, F ds S Qv → T (endsV Qv) (stD N.length ds) S) : FnOk P w K mg base CX0 (k + 1) f fd ps (spV K F) := by
  refine Fn.ok sc (fun vs H Q E h => ?_) (fun cdv A outer s H vs Q E hr h => ?_)
  · obtain ⟨Z, S, ds, Qv, m, r, h, b⟩ := h
    rw [← r.len]; exact len _ _ _ h
  · obtain ⟨Z, S, ds, Qv, m, r, h, b⟩ := h
    refine ⟨_, body cdv A outer s H E hr, Z, _, S, endsV Qv, m, start_rpl r, hT ds S Qv h, ⟨fun ρ' σ' H' S' e m' r' h' => ?_, fun d v H' S' e m' r' h' => ?_, fun _ _ _ _ _ _ _ h => h.elim, fun _ _ _ _ _ _ _ h => h.elim⟩⟩
    · obtain ⟨d', S2, e2, m2, r2, q⟩ := rp_fin (d := .non) (v := .non) m' (by simp only [Rp]) h'
      exact b d' .non H' S2 (e.trans e2) m2 r2 q
    · obtain ⟨d', S2, e2, m2, r2, q⟩ := rp_fin m' r' h'
      exact b d' v H' S2 (e.trans e2) m2 r2 q
end
section
variable {X : Cx}
theorem v_call {CX : CXT} {k : Nat} {f : Addr} {fd : FuncData} {ps : List Str} {F : FS} {x : Str} {p pos : Pos} {e : Expr} {es : List Expr} {T : TAv} (G : FnOk X.prog X.w X.K X.mg X.base CX0 k f fd ps (spV X.K F)) (hr : Room k X.A) (hg : Gl X x) (hm : X.mg x = some (.ref f)) (hk : PySem.W.keepIn X.K (.ref f) = true) (hb : Binds X.K fd ps [])
    (ha : PA X (e :: es) (upA X.K T)) (hdb : (x == ("__debug__" : Str)) = false := by decide) (he : starEach (e :: es) X.env = (false, eval e X.env) :: starEach es X.env := by rfl) (hpl : (backTo pos (starEach es X.env)).any (·.1) = false := by rfl) :
    PE X (.Call (.Name x p) (e :: es) [] pos) (upE X.K (tvCall F T)) :=
  pe_imp (pe_call G hr hg hm hk hb .nil pass0 ha hdb he hpl) fun σ H Q ⟨Z, ρ, S, Qv, m, r, h, b⟩ => ⟨Z, ρ, S, _, m, r, h, fun ds vs H1 S1 e1 m1 r1 h1 => by
    show spV X.K F (vs ++ []) H1 Q E0
    rw [List.append_nil]
    exact ⟨Z, S1, ds, Qv, m1, r1, h1, fun d v H2 S2 e2 => b d v H2 S2 (e1.trans e2)⟩⟩
end
end VL
namespace VL
open PySem PySem.Spec PyProof.Rows L2
section
variable {X : Cx}
theorem g_name {i : Nat} {x : Str} {pos : Pos} (hN : X.N.Nodup) (hi : X.N[i]? = some x := by rfl) (hx : Loc X.env.scope x := by first | exact .inl rfl | exact .inr rfl) (hf : X.fn x = true ∨ X.env.scope.names.lookup x = some .local := by first | exact .inl rfl | exact .inr rfl) :
    PG X (.Name x pos) (gOf X.K (.name i)) := by
  simp only [gOf]; exact pg_name hN hi hx hf
theorem gs_nil : PGs X [] (gsOf X.K []) := by simp only [gsOf]; exact pgs_nil
theorem gs_cons {e : Expr} {es : List Expr} {t : Tg} {ts : List Tg} (h1 : PG X e (gOf X.K t)) (h2 : PGs X es (gsOf X.K ts))
    (hs : (assignEach (e :: es) X.env).map (·.2) = assign e X.env :: (assignEach es X.env).map (·.2) := by rfl) : PGs X (e :: es) (gsOf X.K (t :: ts)) := by
  simp only [gsOf]; exact pgs_cons h1 h2 hs
theorem g_tup {es : List Expr} {k : Nat} {pos : Pos} {l : List Tg} (hc : X.calm = true) (h : PGs X es (gsOf X.K l))
    (hn : (assignEach es X.env).length = l.length := by rfl) (hst : (assignEach es X.env).findIdx? (·.1) = none := by rfl) : PG X (.Tuple es k pos) (gOf X.K (.tup l)) := by
  simp only [gOf]; exact pg_tup hc h hn hst
theorem s_setLc {i : Nat} {y : Str} {py : Pos} {t : Tg} {elt tg iter : Expr} {ifs : List Expr} {scope : Scope} {own : List (Str × Nat)} {pos spos : Pos} {Ti : TIv} {Tt : TTv} {Te : TEv} (hc : X.calm = true) (hN : X.N.Nodup) (hy : X.N[i]? = some y) (hyl : X.env.scope.names.lookup y = some .local)
    (hsw : swapsWith (.ListComp elt [⟨tg, iter, ifs, 0⟩] scope pos) (some (.Name y py)) spos.line X.env = pure true) (hi : PI X tg iter (upI X.K Ti)) (ok : BlkOk X.N X.env.scope scope own)
    (hg : ∀ (s : Shared) (H : Hp) (C : Addr) (cl : List (Str × Addr)) (fp : List Addr), PG (X.blk s H scope (compEnvC scope cl C X.env) fp) tg (gOf X.K t)) (ht : ∀ (s : Shared) (H : Hp) (C : Addr) (cl : List (Str × Addr)) (fp : List Addr), PTs (X.blk s H scope (compEnvC scope cl C X.env) fp) ifs (upT X.K Tt))
    (he : ∀ (s : Shared) (H : Hp) (C : Addr) (cl : List (Str × Addr)) (fp : List Addr), PE (X.blk s H scope (compEnvC scope cl C X.env) fp) elt (upE X.K Te)) (hin : inT (own.map (·.2)) t = true := by rfl) (hs : ∀ x, foldedSetIterable iter X.env x = pure x := by intro _; rfl) :
    PS X (.Assign [.Name y py] (.ListComp elt [⟨tg, iter, ifs, 0⟩] scope pos) spos) (upS X.K (tvSet i (tvLc Ti t Tt Te (own.map (·.2))))) :=
  ps_imp (ps_setLc hc hN hy hyl hsw hi ok hg ht he hs) fun E σ H ⟨Z, ρ, S, Dv, m, r, h, b⟩ => lc_of hin (fun _ _ _ h => h) m r h fun ys ws p H' S' e _ m' hp n z rs q =>
    b.nx _ _ H' S' e (sim_less m') ((r.ext e).set (rp_lst hp n z (Rps.stp stp_less _ _ rs))) q
end
/-- what a caller knows of a def -/
structure Cal (P : Program) (w : World) (K : PySem.W.Frag) (mg : Str → Option Value) (base : Heap) (k : Nat) (x : Str) (ps : List Str) (F : FS) : Prop where
  ex : ∃ (f : Addr) (fd : FuncData), FnOk P w K mg base CX0 k f fd ps (spV K F) ∧ mg x = some (.ref f) ∧ PySem.W.keepIn K (.ref f) = true ∧ Binds K fd ps []
theorem Cal.mono {P : Program} {w : World} {K : PySem.W.Frag} {mg : Str → Option Value} {base : Heap} {k k' : Nat} {x : Str} {ps : List Str} {F : FS} (C : Cal P w K mg base k x ps F) (h : k ≤ k') : Cal P w K mg base k' x ps F :=
  let ⟨f, fd, G, r⟩ := C.ex; ⟨f, fd, G.mono h, r⟩
theorem Cal.imp {P : Program} {w : World} {K : PySem.W.Frag} {mg : Str → Option Value} {base : Heap} {k : Nat} {x : Str} {ps : List Str} {F F' : FS} (C : Cal P w K mg base k x ps F) (h : ∀ ds S Q, F' ds S Q → F ds S Q) : Cal P w K mg base k x ps F' :=
  let ⟨f, fd, G, r⟩ := C.ex; ⟨f, fd, G.imp fun vs H Q E ⟨Z, S, ds, Qv, m, rr, q, b⟩ => ⟨Z, S, ds, Qv, m, rr, h _ _ _ q, b⟩, r⟩
section
variable {X : Cx}
theorem v_cal {k : Nat} {ps : List Str} {F : FS} {x : Str} {p pos : Pos} {e : Expr} {es : List Expr} {T : TAv} (C : Cal X.prog X.w X.K X.mg X.base k x ps F) (hr : Room k X.A)
    (ha : PA X (e :: es) (upA X.K T)) (hg : Gl X x := by rfl) (hdb : (x == ("__debug__" : Str)) = false := by decide) (he : starEach (e :: es) X.env = (false, eval e X.env) :: starEach es X.env := by rfl) (hpl : (backTo pos (starEach es X.env)).any (·.1) = false := by rfl) :
    PE X (.Call (.Name x p) (e :: es) [] pos) (upE X.K (tvCall F T)) := by
  obtain ⟨f, fd, G, hm, hk, hb⟩ := C.ex
  exact v_call (CX := CX0) G hr hg hm hk hb ha hdb he hpl
end
/-- the built-ins are what they were -/
structure Bt (mg : Str → Option Value) : Prop where
  len : mg "len" = none
  range : mg "range" = none
  enumerate : mg "enumerate" = none
  zip : mg "zip" = none
  abs : mg "abs" = none
  max : mg "max" = none
  min : mg "min" = none
  int : mg "int" = none
  bool : mg "bool" = none
  str : mg "str" = none
  list : mg "list" = none
  tuple : mg "tuple" = none
  set : mg "set" = none
  sum : mg "sum" = none
  all : mg "all" = none
  any : mg "any" = none
  sorted : mg "sorted" = none
  isinstance : mg "isinstance" = none
  reversed : mg "reversed" = none
  divmod : mg "divmod" = none
  repr : mg "repr" = none
  dict : mg "dict" = none
theorem hu0 {A : Around} {k : Nat} (hr : Room k A) : A.units + 200 < cLine := by have := hr.un; omega
end VL
namespace VL
open PySem PySem.Spec PyProof.Rows L2
theorem rps_rngV {K : PySem.W.Frag} {H : Hp} {S : Own} {Z : Addr → Prop} : ∀ (n : Nat) (a : Int), Rps K H S Z (rngD a n) ((List.range n).map fun i => V.int (a + (i : Nat)))
  | 0, a => rps_nil
  | n + 1, a => by
    rw [List.range_succ_eq_map, List.map_cons, List.map_map]
    refine rps_cons (by simp only [Rp]; simp) ?_
    have h := rps_rngV (K := K) (H := H) (S := S) (Z := Z) n (a + 1)
    have e : ((fun i : Nat => V.int (a + (i : Int))) ∘ Nat.succ) = fun i : Nat => V.int (a + 1 + (i : Int)) := by
      funext i
      show V.int (a + ((i + 1 : Nat) : Int)) = _
      congr 1; omega
    rw [e]; exact h
def tvRgL (g : List D → Own → KE → Prop) (Ta Tb : TEv) : TEv := fun ρ S Q => Ta ρ S fun x S1 => Tb ρ S1 fun y S2 => match twoI [x, y] with
  | some (i, j) => RgOk i j ∧ g (rngD i (j - i).toNat) S2 Q
  | none => False
def kLst : List D → Own → KE → Prop := fun xs S Q => Q (.lst xs) S
def kLstO : List D → Own → KE → Prop := fun xs S Q => ∀ p, S p = none → Q (.ref p) (ust S p (.lst xs))
section
variable {X : Cx}
theorem v_rgL {e f : Expr} {p p2 pos pos2 : Pos} {Ta Tb : TEv} (hc : X.calm = true) (hg : Gl X "list") (hm : X.mg "list" = none) (hg2 : Gl X "range") (hm2 : X.mg "range" = none) (ha : PE X e (upE X.K Ta)) (hb : PE X f (upE X.K Tb))
    (na : starEach [e, f] X.env = (false, eval e X.env) :: starEach [f] X.env := by rfl) (nb : starEach [f] X.env = (false, eval f X.env) :: starEach [] X.env := by rfl) (hp : (backTo pos2 (starEach [f] X.env)).any (·.1) = false := by rfl)
    (nc : starEach [.Call (.Name "range" p2) [e, f] [] pos2] X.env = (false, eval (.Call (.Name "range" p2) [e, f] [] pos2) X.env) :: starEach [] X.env := by rfl) : PE X (.Call (.Name "list" p) [.Call (.Name "range" p2) [e, f] [] pos2] [] pos) (upE X.K (tvRgL kLst Ta Tb)) :=
  pe_imp (pe_listRg hc hg hm (prg_2 hg2 hm2 ha hb na nb hp) nc) fun σ H Q ⟨Z, ρ, S, Qv, m, r, h, b⟩ => ⟨Z, ρ, S, _, m, r, h, fun d v H1 S1 e1 m1 r1 h1 => ⟨Z, ρ, S1, _, m1, r.ext e1, h1, fun d2 v2 H2 S2 e2 m2 r2 h2 => by
    cases q : twoI [d, d2] with
    | none => rw [q] at h2; exact h2.elim
    | some ij =>
      rw [q] at h2
      have := twoI_of q (rps_cons (r1.ext e2) (rps_cons r2 rps_nil))
      injection this with ev ew
      injection ew with ew _
      exact ⟨ij.1, ij.2, ev, ew, h2.1, fun p hp => b _ _ _ _ ((e1.trans e2).trans (ext_new m2 hp)) (sim_new m2 hp) (new_lst m2 (rps_rngV _ _) hp) h2.2⟩⟩⟩
theorem v_rgLO {e f : Expr} {p p2 pos pos2 : Pos} {Ta Tb : TEv} (hc : X.calm = true) (hg : Gl X "list") (hm : X.mg "list" = none) (hg2 : Gl X "range") (hm2 : X.mg "range" = none) (ha : PE X e (upE X.K Ta)) (hb : PE X f (upE X.K Tb))
    (na : starEach [e, f] X.env = (false, eval e X.env) :: starEach [f] X.env := by rfl) (nb : starEach [f] X.env = (false, eval f X.env) :: starEach [] X.env := by rfl) (hp : (backTo pos2 (starEach [f] X.env)).any (·.1) = false := by rfl)
    (nc : starEach [.Call (.Name "range" p2) [e, f] [] pos2] X.env = (false, eval (.Call (.Name "range" p2) [e, f] [] pos2) X.env) :: starEach [] X.env := by rfl) : PE X (.Call (.Name "list" p) [.Call (.Name "range" p2) [e, f] [] pos2] [] pos) (upE X.K (tvRgL kLstO Ta Tb)) :=
  pe_imp (pe_listRg hc hg hm (prg_2 hg2 hm2 ha hb na nb hp) nc) fun σ H Q ⟨Z, ρ, S, Qv, m, r, h, b⟩ => ⟨Z, ρ, S, _, m, r, h, fun d v H1 S1 e1 m1 r1 h1 => ⟨Z, ρ, S1, _, m1, r.ext e1, h1, fun d2 v2 H2 S2 e2 m2 r2 h2 => by
    cases q : twoI [d, d2] with
    | none => rw [q] at h2; exact h2.elim
    | some ij =>
      rw [q] at h2
      have := twoI_of q (rps_cons (r1.ext e2) (rps_cons r2 rps_nil))
      injection this with ev ew
      injection ew with ew _
      exact ⟨ij.1, ij.2, ev, ew, h2.1, fun p hp => b (.ref p) _ _ _ ((e1.trans e2).trans (ext_own m2 hp)) (new_own m2 (rps_rngV _ _) hp) (by simp only [Rp]) (h2.2 p (m2.free hp))⟩⟩⟩
end
end VL
namespace VL
open PySem PySem.Spec PyProof.Rows L2
section
variable {ρ : VS} {S : Own} {Q : KE} {Dv : EndsV} {d : D} {x : Option D} {n i : Nat}
theorem q_var0 {r : VS} : tvVar 0 (some d :: r) S Q = Q d S := rfl
theorem q_varS {r : VS} : tvVar (n + 1) (x :: r) S Q = tvVar n r S Q := rfl
theorem q_sat0 {r : VS} : sat (x :: r) 0 d = some d :: r := rfl
theorem q_satS {r : VS} : sat (x :: r) (n + 1) d = x :: sat r n d := rfl
theorem q_unst0 {r : VS} : unst (x :: r) 0 = none :: r := rfl
theorem q_unstS {r : VS} : unst (x :: r) (n + 1) = x :: unst r n := rfl
theorem q_wip0 : wip ρ [] = ρ := rfl
theorem q_wipS {vs : List Nat} : wip ρ (i :: vs) = unst (wip ρ vs) i := rfl
theorem q_C : tvC d ρ S Q = Q d S := rfl
theorem q_op {R : R2v} {Ta Tb : TEv} : tvOp R Ta Tb ρ S Q = Ta ρ S (fun x S1 => Tb ρ S1 fun y S2 => R x y S2 Q) := rfl
theorem q_un {R : R1v} {Ta : TEv} : tvUn R Ta ρ S Q = Ta ρ S (fun x S1 => R x S1 Q) := rfl
def kB (Q : Bool → Own → Prop) : KE := fun d S => match d with
  | .bl b => Q b S
  | _ => False
theorem q_test {T : TEv} {Qb : Bool → Own → Prop} : tvTest T ρ S Qb = T ρ S (kB Qb) := rfl
theorem q_kB {Qb : Bool → Own → Prop} {b : Bool} : kB Qb (.bl b) S = Qb b S := rfl
theorem q_not {T : TTv} {Qb : Bool → Own → Prop} : tvNot T ρ S Qb = T ρ S (fun b S1 => Qb (!b) S1) := rfl
theorem q_and {T U : TTv} {Qb : Bool → Own → Prop} : tvAnd T U ρ S Qb = T ρ S (fun b S1 => if b = true then U ρ S1 Qb else Qb false S1) := rfl
theorem q_or {T U : TTv} {Qb : Bool → Own → Prop} : tvOr T U ρ S Qb = T ρ S (fun b S1 => if b = true then Qb true S1 else U ρ S1 Qb) := rfl
theorem q_ifE {T : TTv} {Ta Tb : TEv} : tvIfE T Ta Tb ρ S Q = T ρ S (fun b S1 => if b = true then Ta ρ S1 Q else Tb ρ S1 Q) := rfl
theorem q_andV {Ta Tb : TEv} : tvAndV Ta Tb ρ S Q = Ta ρ S (kB fun b S1 => if b = true then Tb ρ S1 Q else Q (.bl false) S1) := rfl
theorem q_orV {Ta Tb : TEv} : tvOrV Ta Tb ρ S Q = Ta ρ S (kB fun b S1 => if b = true then Q (.bl true) S1 else Tb ρ S1 Q) := rfl
theorem q_notV {Ta : TEv} : tvNotV Ta ρ S Q = Ta ρ S (kB fun b S1 => Q (.bl (!b)) S1) := rfl
theorem q_chain {R R' : R2v} {Ta Tb Tc : TEv} : tvChain R R' Ta Tb Tc ρ S Q = Ta ρ S (fun x S1 => Tb ρ S1 fun y S2 => R x y S2 (kB fun b S3 => if b = true then Tc ρ S3 fun u S4 => R' y u S4 Q else Q (.bl false) S3)) := rfl
theorem q_nil {Qa : List D → Own → Prop} : tvNil ρ S Qa = Qa [] S := rfl
theorem q_cons {T : TEv} {U : TAv} {Qa : List D → Own → Prop} : tvCons T U ρ S Qa = T ρ S (fun d S1 => U ρ S1 fun ds S2 => Qa (d :: ds) S2) := rfl
theorem q_tup {T : TAv} : tvTup T ρ S Q = T ρ S (fun ds S1 => ds.length ≤ sizeLine ∧ Q (.tup ds) S1) := rfl
theorem q_lst {T : TAv} : tvLst T ρ S Q = T ρ S (fun ds S1 => ds.length ≤ sizeLine ∧ Q (.lst ds) S1) := rfl
theorem q_lstO {T : TAv} : tvLstO T ρ S Q = T ρ S (fun ds S1 => ds.length ≤ sizeLine ∧ ∀ p, S1 p = none → Q (.ref p) (ust S1 p (.lst ds))) := rfl
theorem q_CB {R : RAv} {T : TAv} : tvCB R T ρ S Q = T ρ S (fun ds S1 => R ds S1 Q) := rfl
theorem q_BM {rc : D → Own → Prop} {R : D → RAv} {To : TEv} {T : TAv} : tvBMr rc R To T ρ S Q = To ρ S (fun x S1 => rc x S1 ∧ T ρ S1 fun ds S2 => R x ds S2 Q) := rfl
theorem q_call {F : FS} {T : TAv} : tvCall F T ρ S Q = T ρ S (fun ds S1 => F ds S1 Q) := rfl
theorem q_seq {T U : TSv} : tvSeq T U Dv ρ S = T { nx := U Dv, rt := Dv.rt, bk := Dv.bk, ct := Dv.ct } ρ S := rfl
theorem q_next : tvNext Dv ρ S = Dv.nx ρ S := rfl
theorem q_set {T : TEv} : tvSet i T Dv ρ S = T ρ S (fun d S1 => Dv.nx (sat ρ i d) S1) := rfl
theorem q_drop {T : TEv} : tvDrop T Dv ρ S = T ρ S (fun _ S1 => Dv.nx ρ S1) := rfl
theorem q_ret {T : TEv} : tvRet T Dv ρ S = T ρ S Dv.rt := rfl
theorem q_if {T : TTv} {U V : TSv} : tvIf T U V Dv ρ S = T ρ S (fun b S1 => if b = true then U Dv ρ S1 else V Dv ρ S1) := rfl
def kbind (t : Tg) (ρ : VS) (S : Own) (Q : VS → Own → Prop) (d : D) : Prop := match bindV t d ρ with
  | some ρ2 => Q ρ2 S
  | none => False
theorem q_bind {t : Tg} {T : TEv} : tvBind t T Dv ρ S = T ρ S (fun d S1 => kbind t ρ S1 Dv.nx d) := rfl
theorem q_kbind {t : Tg} {Qn : VS → Own → Prop} {ρ2 : VS} (h : bindV t d ρ = some ρ2) : kbind t ρ S Qn d = Qn ρ2 S := by unfold kbind; rw [h]
theorem q_setIx {Te To Ti : TEv} : tvSetIx Te To Ti Dv ρ S = Te ρ S (fun v S1 => To ρ S1 fun o S2 => Ti ρ S2 fun i S3 => rvSet o i v S3 fun S4 => Dv.nx ρ S4) := rfl
theorem q_for {Ti : TIv} {t : Tg} {Tb : TSv} : tvFor Ti t Tb Dv ρ S = Ti ρ S (fun ds S1 => forV t Tb Dv ds ρ S1) := rfl
theorem q_lc {Ti : TIv} {t : Tg} {Tt : TTv} {Te : TEv} {vs : List Nat} : tvLc Ti t Tt Te vs ρ S Q = Ti ρ S (fun ds S1 => ds.length ≤ sizeLine ∧ compV t Tt Te (wip ρ vs) ds S1 fun ys S2 => Q (.lst ys) S2) := rfl
theorem q_lcO {Ti : TIv} {t : Tg} {Tt : TTv} {Te : TEv} {vs : List Nat} : tvLcO Ti t Tt Te vs ρ S Q = Ti ρ S (fun ds S1 => ds.length ≤ sizeLine ∧ compV t Tt Te (wip ρ vs) ds S1 fun ys S2 => ∀ p, S2 p = none → Q (.ref p) (ust S2 p (.lst ys))) := rfl
theorem q_yes {Qb : Bool → Own → Prop} : ttYes ρ S Qb = Qb true S := rfl
theorem q_stD {n : Nat} {ds : List D} : stD n ds = ds.map some ++ List.replicate (n - ds.length) none := rfl
theorem q_nx {a : VS → Own → Prop} {b : KE} {c e : VS → Own → Prop} : (EndsV.mk a b c e).nx = a := rfl
theorem q_rt {a : VS → Own → Prop} {b : KE} {c e : VS → Own → Prop} : (EndsV.mk a b c e).rt = b := rfl
theorem q_endr {Qv : KE} : (endsV Qv).rt = fin Qv := rfl
theorem q_endn {Qv : KE} : (endsV Qv).nx ρ S = fin Qv .non S := rfl
theorem q_I {C : Int → Int → Prop} {g : Int → Int → D} {a b : Int} : rvI C g (.int a) (.int b) S Q = (C a b ∧ Q (g a b) S) := rfl
theorem q_I0 {g : Int → Int → D} {a b : Int} : rvI0 g (.int a) (.int b) S Q = Q (g a b) S := rfl
theorem q_addI {a b : Int} : rvAdd (.int a) (.int b) S Q = Q (.int (a + b)) S := rfl
theorem q_addT {a b : List D} : rvAdd (.tup a) (.tup b) S Q = (a.length + b.length ≤ sizeLine ∧ Q (.tup (a ++ b)) S) := rfl
theorem q_addL {a b : List D} : rvAdd (.lst a) (.lst b) S Q = (a.length + b.length ≤ sizeLine ∧ Q (.lst (a ++ b)) S) := rfl
theorem q_neg {a : Int} : rvNeg (.int a) S Q = Q (.int (-a)) S := rfl
theorem q_ixT {xs : List D} {a : Int} {e : D} (h : atI xs a = some e) : rvIx (.tup xs) (.int a) S Q = Q e S := by
  show (match atI xs a with | some e => Q e S | none => False) = _; rw [h]
theorem q_ixL {xs : List D} {a : Int} {e : D} (h : atI xs a = some e) : rvIx (.lst xs) (.int a) S Q = Q e S := by
  show (match atI xs a with | some e => Q e S | none => False) = _; rw [h]
theorem q_ixS {xs : List D} {a : Int} {e : D} (h : atI xs a = some e) : rvIx (.scr xs) (.int a) S Q = Q e S := by
  show (match atI xs a with | some e => Q e S | none => False) = _; rw [h]
theorem vw_own {p : Addr} {xs : List D} (hS : S p = some (.lst xs)) : vw S (.ref p) = .lst xs := by simp only [vw, hS]
theorem q_ixO {p : Addr} {xs : List D} {a : Int} {e : D} (hS : S p = some (.lst xs)) (h : atI xs a = some e) : rvIx (.ref p) (.int a) S Q = Q e S := by
  unfold rvIx; rw [vw_own hS]
  show (match atI xs a with | some e => Q e S | none => False) = _; rw [h]
theorem q_setO {p : Addr} {xs : List D} {a : Int} {j : Nat} {v : D} {Qo : Own → Prop} (hS : S p = some (.lst xs)) (h : ixN xs.length a = some j) : rvSet (.ref p) (.int a) v S Qo = Qo (ust S p (.lst (xs.set j v))) := by
  simp only [rvSet, hS, h]
theorem q_lenT {xs : List D} : rvLen [.tup xs] S Q = Q (.int xs.length) S := rfl
theorem q_lenL {xs : List D} : rvLen [.lst xs] S Q = Q (.int xs.length) S := rfl
theorem q_lenS {xs : List D} : rvLen [.scr xs] S Q = Q (.int xs.length) S := rfl
theorem q_lenO {p : Addr} {xs : List D} (hS : S p = some (.lst xs)) : rvLen [.ref p] S Q = Q (.int xs.length) S := by
  simp only [rvLen, lenD, vw_own hS]; rfl
theorem q_int1 {g : Int → D} {k : Bool → D} {a : Int} : rvInt1 g k [.int a] S Q = Q (g a) S := rfl
theorem q_intB {g : Int → D} {k : Bool → D} {a : Bool} : rvInt1 g k [.bl a] S Q = Q (k a) S := rfl
theorem q_I1 {g : Int → D} {a : Int} : rvI1 g [.int a] S Q = Q (g a) S := rfl
theorem q_II {g : Int → Int → D} {a b : Int} : rvII g [.int a, .int b] S Q = Q (g a b) S := rfl
theorem q_tupT {xs : List D} : rvTuple [.tup xs] S Q = Q (.tup xs) S := rfl
theorem q_tupL {xs : List D} : rvTuple [.lst xs] S Q = Q (.tup xs) S := rfl
def kR1 (Qa : List D → Own → Prop) (ds : List D) (S : Own) : Prop := ∃ j, oneI ds = some j ∧ (-(2 ^ 62) ≤ j ∧ j < 2 ^ 62) ∧ Qa (rngD 0 j.toNat) S
def kR2 (Qa : List D → Own → Prop) (ds : List D) (S : Own) : Prop := ∃ i j, twoI ds = some (i, j) ∧ (-(2 ^ 62) ≤ i ∧ i < 2 ^ 62 ∧ -(2 ^ 62) ≤ j ∧ j < 2 ^ 62) ∧ Qa (rngD i (j - i).toNat) S
theorem q_r1 {T : TAv} {Qa : List D → Own → Prop} : tvRng1 T ρ S Qa = T ρ S (kR1 Qa) := by
  unfold tvRng1
  congr 1
  funext ds S1
  unfold kR1
  cases oneI ds <;> simp
theorem q_r2 {T : TAv} {Qa : List D → Own → Prop} : tvRng2 T ρ S Qa = T ρ S (kR2 Qa) := by
  unfold tvRng2
  congr 1
  funext ds S1
  unfold kR2
  cases h : twoI ds with
  | none => simp
  | some ij => exact propext ⟨fun q => ⟨ij.1, ij.2, rfl, q⟩, fun ⟨_, _, e, q⟩ => by cases e; exact q⟩
theorem q_kR1 {Qa : List D → Own → Prop} {j : Int} : kR1 Qa [.int j] S = ((-(2 ^ 62) ≤ j ∧ j < 2 ^ 62) ∧ Qa (rngD 0 j.toNat) S) := by simp [kR1, oneI]
theorem q_kR2 {Qa : List D → Own → Prop} {i j : Int} : kR2 Qa [.int i, .int j] S = ((-(2 ^ 62) ≤ i ∧ i < 2 ^ 62 ∧ -(2 ^ 62) ≤ j ∧ j < 2 ^ 62) ∧ Qa (rngD i (j - i).toNat) S) :=
  propext ⟨fun ⟨_, _, e, q⟩ => by cases e; exact q, fun q => ⟨i, j, rfl, q⟩⟩
def kSq (Qa : List D → Own → Prop) : KE := fun d S => match seqD d with
  | some xs => Qa xs S
  | none => False
theorem q_sq {T : TEv} {Qa : List D → Own → Prop} : tvSq T ρ S Qa = T ρ S (kSq Qa) := rfl
theorem q_kSqT {Qa : List D → Own → Prop} {xs : List D} : kSq Qa (.tup xs) S = Qa xs S := rfl
theorem q_kSqL {Qa : List D → Own → Prop} {xs : List D} : kSq Qa (.lst xs) S = Qa xs S := rfl
theorem q_kSqQ {Qa : List D → Own → Prop} {xs : List D} : kSq Qa (.tuq xs) S = Qa xs S := rfl
def kEn (Qa : List D → Own → Prop) (ds : List D) (S : Own) : Prop := match ds with
  | [d] => match seqD d with
    | some xs => Qa (enumD 0 xs) S
    | none => False
  | _ => False
theorem q_enum {T : TAv} {Qa : List D → Own → Prop} : tvEnum T ρ S Qa = T ρ S (kEn Qa) := rfl
theorem q_kEnT {Qa : List D → Own → Prop} {xs : List D} : kEn Qa [.tup xs] S = Qa (enumD 0 xs) S := rfl
theorem q_kEnL {Qa : List D → Own → Prop} {xs : List D} : kEn Qa [.lst xs] S = Qa (enumD 0 xs) S := rfl
theorem q_isi {f : D → Bool} {Te : TEv} : tvIsi f Te ρ S Q = Te ρ S (fun d S1 => ∃ n, tyN (vw S1 d) = some n ∧ Q (.bl (f (vw S1 d))) S1) := by
  unfold tvIsi
  congr 1
  funext d S1
  cases tyN (vw S1 d) <;> simp
def revK (Q : KE) : KE := fun d S1 => match vw S1 d with
  | .tup xs => Q (.tup xs.reverse) S1
  | .lst xs => Q (.lst xs.reverse) S1
  | _ => False
theorem q_rev {T : TEv} : tvRev T ρ S Q = T ρ S (revK Q) := rfl
theorem q_revT {xs : List D} : revK Q (.tup xs) S = Q (.tup xs.reverse) S := rfl
theorem q_revL {xs : List D} : revK Q (.lst xs) S = Q (.lst xs.reverse) S := rfl
theorem q_rgL {g : List D → Own → KE → Prop} {Ta Tb : TEv} : tvRgL g Ta Tb ρ S Q = Ta ρ S (fun x S1 => Tb ρ S1 fun y S2 => ∃ i j, twoI [x, y] = some (i, j) ∧ RgOk i j ∧ g (rngD i (j - i).toNat) S2 Q) := by
  unfold tvRgL
  congr 1
  funext x S1
  congr 1
  funext y S2
  cases h : twoI [x, y] with
  | none => simp
  | some ij => exact propext ⟨fun q => ⟨ij.1, ij.2, rfl, q⟩, fun ⟨_, _, e, q⟩ => by cases e; exact q⟩
theorem q_appO {p : Addr} {xs : List D} (hS : S p = some (.lst xs)) : rvApp (.ref p) [d] S Q = (xs.length < sizeLine ∧ Q .non (ust S p (.lst (xs ++ [d])))) := by
  simp only [rvApp, ownL, hS]
theorem q_extO {p : Addr} {xs ys : List D} (hS : S p = some (.lst xs)) : rvExt (.ref p) [.lst ys] S Q = (xs.length + ys.length ≤ sizeLine ∧ Q .non (ust S p (.lst (xs ++ ys)))) := by
  simp only [rvExt, ownL, hS]
theorem q_rcO {p : Addr} {xs : List D} (hS : S p = some (.lst xs)) : rcL (.ref p) S = True := by
  simp [rcL, vw_own hS, lstD]
theorem q_rcL {xs : List D} : rcL (.lst xs) S = True := by simp [rcL, vw, lstD]
theorem q_rcT {xs : List D} : rcT (.tup xs) S = True := rfl
theorem q_repO {xs : List D} {k : Int} : rvRepO (.lst xs) (.int k) S Q = (k < 2 ^ 63 ∧ -(2 ^ 63) ≤ k ∧ xs.length * k.toNat ≤ sizeLine ∧ ∀ p, S p = none → Q (.ref p) (ust S p (.lst (List.replicate k.toNat xs).flatten))) := rfl
theorem q_rep {xs : List D} {k : Int} : rvRep (.lst xs) (.int k) S Q = (k < 2 ^ 63 ∧ -(2 ^ 63) ≤ k ∧ xs.length * k.toNat ≤ sizeLine ∧ Q (.lst (List.replicate k.toNat xs).flatten) S) := rfl
theorem q_bls {g : List Bool → Bool} {bs : List Bool} : rvBls g [.lst (bs.map D.bl)] S Q = Q (.bl (g bs)) S := by
  simp only [rvBls, vw, lstD, Option.bind, blsD_map]
theorem q_sum {ns : List Int} : rvSum [.lst (ns.map D.int)] S Q = Q (.int ns.sum) S := by
  simp only [rvSum, vw, lstD, Option.bind, intsD_map]
theorem q_eqv {g : Bool → Bool} {a b : D} {p q : PyData} (h1 : toP (vw S a) = some p) (h2 : toP (vw S b) = some q) : rvEqv g a b S Q = (p.depth ≤ 190 ∧ Q (.bl (g (PyData.eqv p q))) S) := by
  simp only [rvEqv, h1, h2]
theorem q_eqI {g : Bool → Bool} {a b : Int} : rvEqv g (.int a) (.int b) S Q = Q (.bl (g (decide (a = b)))) S := by
  rw [q_eqv (p := .int a) (q := .int b) rfl rfl]
  simp only [PyData.depth, PyData.eqv, Nat.zero_le, true_and]
  rw [Bool.beq_eq_decide_eq]
end
theorem for_nil {t : Tg} {Tb : TSv} {Dv : EndsV} {ρ : VS} {S : Own} : forV t Tb Dv [] ρ S = Dv.nx ρ S := rfl
theorem for_cons {t : Tg} {Tb : TSv} {Dv : EndsV} {d : D} {ds : List D} {ρ ρ2 : VS} {S : Own} (h : bindV t d ρ = some ρ2) : forV t Tb Dv (d :: ds) ρ S = Tb { nx := forV t Tb Dv ds, ct := forV t Tb Dv ds, bk := Dv.nx, rt := Dv.rt } ρ2 S := by
  simp only [forV, h]
theorem comp_nil {t : Tg} {Tt : TTv} {Te : TEv} {ρ : VS} {S : Own} {Q : List D → Own → Prop} : compV t Tt Te ρ [] S Q = Q [] S := rfl
theorem comp_cons {t : Tg} {Tt : TTv} {Te : TEv} {ρ ρ2 : VS} {S : Own} {Q : List D → Own → Prop} {d : D} {ds : List D} (h : bindV t d ρ = some ρ2) : compV t Tt Te ρ (d :: ds) S Q =
    Tt ρ2 S (fun b S3 => if b = true then Te ρ2 S3 fun y S4 => compV t Tt Te ρ ds S4 fun ys S5 => Q (y :: ys) S5 else compV t Tt Te ρ ds S3 Q) := by
  simp only [compV, h]
/-- a comprehension whose element is a function of the item, nothing changed -/
theorem comp_map {t : Tg} {Te : TEv} {ρ : VS} {S : Own} (f : D → D) : ∀ (ds : List D) (Q : List D → Own → Prop), (∀ d ∈ ds, ∃ ρ2, bindV t d ρ = some ρ2 ∧ ∀ Q' : KE, Q' (f d) S → Te ρ2 S Q') → Q (ds.map f) S → compV t ttYes Te ρ ds S Q
  | [], Q, h, q => q
  | d :: ds, Q, h, q => by
    obtain ⟨ρ2, h1, h2⟩ := h d (by simp)
    rw [comp_cons h1]
    simp only [q_yes, if_true]
    exact h2 _ (comp_map f ds _ (fun d' hd => h d' (by simp [hd])) q)
/-- .. with a test -/
theorem comp_filter {t : Tg} {Tt : TTv} {Te : TEv} {ρ : VS} {S : Own} (c : D → Bool) (f : D → D) : ∀ (ds : List D) (Q : List D → Own → Prop), (∀ d ∈ ds, ∃ ρ2, bindV t d ρ = some ρ2 ∧ (∀ Q' : Bool → Own → Prop, Q' (c d) S → Tt ρ2 S Q') ∧ (c d = true → ∀ Q' : KE, Q' (f d) S → Te ρ2 S Q')) →
    Q ((ds.filter c).map f) S → compV t Tt Te ρ ds S Q
  | [], Q, h, q => q
  | d :: ds, Q, h, q => by
    obtain ⟨ρ2, h1, h2, h3⟩ := h d (by simp)
    rw [comp_cons h1]
    refine h2 _ ?_
    rw [List.filter_cons] at q
    cases e : c d with
    | true =>
      rw [e] at q
      simp only [if_true] at q ⊢
      exact h3 e _ (comp_filter c f ds _ (fun d' hd => h d' (by simp [hd])) q)
    | false =>
      rw [e] at q
      simp only [Bool.false_eq_true, if_false] at q ⊢
      exact comp_filter c f ds _ (fun d' hd => h d' (by simp [hd])) q
theorem bind_name {i : Nat} {d : D} {ρ : VS} : bindV (.name i) d ρ = some (sat ρ i d) := rfl
end VL
namespace VL
open PySem PySem.Spec PyProof.Rows L2
theorem atI_0 {α : Type} {x : α} {r : List α} : atI (x :: r) 0 = some x := atI_nat (j := 0) rfl
theorem atI_1 {α : Type} {x y : α} {r : List α} : atI (x :: y :: r) 1 = some y := atI_nat (j := 1) rfl
theorem atI_2 {α : Type} {x y z : α} {r : List α} : atI (x :: y :: z :: r) 2 = some z := atI_nat (j := 2) rfl
theorem ixN_of {n j : Nat} (h : j < n) : ixN n (j : Int) = some j := by
  unfold ixN
  rw [if_pos (by omega), if_pos (by omega)]
  rfl
theorem ixN_0 {n : Nat} : ixN (n + 1) 0 = some 0 := ixN_of (j := 0) (by omega)
theorem ixN_1 {n : Nat} : ixN (n + 2) 1 = some 1 := ixN_of (j := 1) (by omega)
theorem ixN_2 {n : Nat} : ixN (n + 3) 2 = some 2 := ixN_of (j := 2) (by omega)
local macro_rules | `(tactic| walk_at "vs") => `(tactic| simp only [q_var0, q_varS, q_sat0, q_satS, q_C, q_op, q_un, q_test, q_kB, q_not, q_and, q_or, q_ifE, q_andV, q_orV, q_notV, q_chain, q_nil, q_cons, q_tup, q_lst, q_lstO, q_CB, q_BM, q_call, q_seq, q_next, q_set, q_drop, q_ret, q_if, q_setIx, q_stD, q_nx, q_rt, q_endr, q_endn, q_I, q_I0, q_addI, q_neg, q_ixT atI_0, q_ixT atI_1, q_ixT atI_2,
  List.map_cons, List.map_nil, List.cons_append, List.nil_append, List.length_cons, List.length_nil, List.replicate])
def bagD (c r n : Int) : List D := [.int c, .int r, .int n]
structure BagOk (c r n N : Int) : Prop where
  c0 : 0 ≤ c
  r0 : 0 ≤ r
  r1 : r < 2147483648
  n0 : 0 ≤ n
  n1 : n ≤ N
theorem BagOk.mono {c r n N M : Int} (h : BagOk c r n N) (e : N ≤ M) : BagOk c r n M := ⟨h.c0, h.r0, h.r1, h.n0, Int.le_trans h.n1 e⟩
/-- a bag stands at p, of so many draws at most -/
def BagAt (S : Own) (p : Addr) (N : Int) : Prop := ∃ c r n, S p = some (.lst (bagD c r n)) ∧ BagOk c r n N
def F_l_bag : FS := fun ds S Q => ∃ (ns : List Int) (a : Int), ds = [.scr (ns.map D.int), .int a] ∧ 0 ≤ a ∧ a ≤ 1000 ∧ ∀ p c r, S p = none → BagOk c r 0 0 → Q (.ref p) (ust S p (.lst (bagD c r 0)))
def F_l_take : FS := fun ds S Q => ∃ p m c r n N, ds = [.ref p, .int m] ∧ S p = some (.lst (bagD c r n)) ∧ BagOk c r n N ∧ N ≤ 2 ^ 40 ∧ 0 < m ∧ m < 1073741824 ∧
  ∀ c' r' n' d, BagOk c' r' n' (N + 1) → 0 ≤ d → d < m → Q (.int d) (ust S p (.lst (bagD c' r' n')))
def T_l_take : TSv := (tvSeq (tvIf (tvTest (tvOp rvGt (tvOp rvIx (tvVar 0) (tvC (.int 0))) (tvC (.int 0))))
  (tvSeq (tvSet 2 (tvOp rvMod (tvOp rvIx (tvVar 0) (tvC (.int 0))) (tvVar 1)))
  (tvSeq (tvSetIx (tvOp rvDiv (tvOp rvIx (tvVar 0) (tvC (.int 0))) (tvVar 1)) (tvVar 0) (tvC (.int 0)))
  (tvRet (tvVar 2))))
  tvNext)
  (tvSeq (tvSetIx (tvOp rvAdd (tvOp rvIx (tvVar 0) (tvC (.int 2))) (tvC (.int 1))) (tvVar 0) (tvC (.int 2)))
  (tvSeq (tvSetIx (tvOp rvMod (tvOp rvPow (tvOp rvAdd (tvOp rvAdd (tvOp rvMul (tvOp rvIx (tvVar 0) (tvC (.int 1))) (tvC (.int 48271))) (tvOp rvMul (tvC (.int 7919)) (tvOp rvIx (tvVar 0) (tvC (.int 2))))) (tvC (.int 11))) (tvC (.int 3))) (tvC (.int 2147483629))) (tvVar 0) (tvC (.int 1)))
  (tvRet (tvOp rvMod (tvOp rvDiv (tvOp rvMod (tvOp rvMul (tvOp rvIx (tvVar 0) (tvC (.int 1))) (tvC (.int 69621))) (tvC (.int 1073741789))) (tvC (.int 7))) (tvVar 1))))))
section
variable {S : Own} {Q : KE} {p : Addr} {x y z v : D} {r : List D} {Qo : Own → Prop}
theorem q_ixU1 : rvIx (.ref p) (.int 1) (ust S p (.lst (x :: y :: r))) Q = Q y (ust S p (.lst (x :: y :: r))) := q_ixO ust_same atI_1
theorem q_ixU2 : rvIx (.ref p) (.int 2) (ust S p (.lst (x :: y :: z :: r))) Q = Q z (ust S p (.lst (x :: y :: z :: r))) := q_ixO ust_same atI_2
theorem q_setU1 : rvSet (.ref p) (.int 1) v (ust S p (.lst (x :: y :: r))) Qo = Qo (ust (ust S p (.lst (x :: y :: r))) p (.lst (x :: v :: r))) := q_setO (xs := x :: y :: r) (j := 1) ust_same ixN_1
end
theorem fin_of {Qv : KE} {d : D} {S : Own} (h : Qv d S) : fin Qv d S := ⟨S, Sub.refl S, .inl h⟩
theorem fin_sub {Qv : KE} {d : D} {S S' : Own} (s : Sub S' S) (h : Qv d S') : fin Qv d S := ⟨S', s, .inl h⟩
theorem cmul_r {i j : Int} (h1 : -(2 ^ 64) < j) (h2 : j < 2 ^ 64) : CMul i j := .inr ⟨h1, h2⟩
theorem cmul_l {i j : Int} (h1 : -(2 ^ 64) < i) (h2 : i < 2 ^ 64) : CMul i j := .inl ⟨h1, h2⟩
theorem t_l_take : ∀ ds S Qv, F_l_take ds S Qv → T_l_take (endsV Qv) (stD 3 ds) S := by
  rintro ds S Qv ⟨p, m, c, r, n, N, rfl, hS, hb, hN, m0, m1, q⟩
  obtain ⟨c0, r0, r1, n0, n1⟩ := hb
  unfold bagD at hS q
  unfold T_l_take
  walk_at "vs"
  simp only [q_ixO hS atI_0, q_ixO hS atI_2, q_I0, q_kB, q_I, q_addI, q_setO hS ixN_0, q_setO hS ixN_2, List.set_cons_zero, List.set_cons_succ]
  by_cases hc : 0 < c
  · rw [if_pos (decide_eq_true hc)]
    refine ⟨m0, ⟨m0, m1⟩, ?_⟩
    exact fin_of (q _ _ _ _ ⟨Int.ediv_nonneg c0 (by omega), r0, r1, n0, by omega⟩ (Int.emod_nonneg _ (by omega)) (Int.emod_lt_of_pos _ m0))
  · rw [if_neg (fun e => hc (of_decide_eq_true e))]
    have hS2 : ∀ xs, ust S p (.lst xs) p = some (.lst xs) := fun xs => ust_same
    simp only [q_ixU1, q_ixU2, q_I0, q_kB, q_I, q_addI, q_setU1, ust_ust]
    have hr : 0 ≤ (r * 48271 + 7919 * (n + 1) + 11) ^ (3 : Int).toNat % 2147483629 := Int.emod_nonneg _ (by omega)
    have hr2 : (r * 48271 + 7919 * (n + 1) + 11) ^ (3 : Int).toNat % 2147483629 < 2147483629 := Int.emod_lt_of_pos _ (by omega)
    generalize (r * 48271 + 7919 * (n + 1) + 11) ^ (3 : Int).toNat % 2147483629 = r2 at hr hr2
    refine ⟨cmul_r (by omega) (by omega), cmul_l (by omega) (by omega), ⟨by omega, by omega, by omega⟩, by omega, cmul_r (by omega) (by omega), by omega, ⟨by omega, by omega⟩, m0, ?_⟩
    exact fin_of (q _ _ _ _ ⟨c0, hr, by omega, by omega, by omega⟩ (Int.emod_nonneg _ (by omega)) (Int.emod_lt_of_pos _ m0))
end VL
namespace VL
open PySem PySem.Spec PyProof.Rows L2
local macro_rules | `(tactic| walk_at "vs") => `(tactic| simp only [q_var0, q_varS, q_sat0, q_satS, q_C, q_op, q_un, q_test, q_kB, q_not, q_and, q_or, q_ifE, q_andV, q_orV, q_notV, q_chain, q_nil, q_cons, q_tup, q_lst, q_lstO, q_CB, q_BM, q_call, q_seq, q_next, q_set, q_drop, q_ret, q_if, q_setIx, q_stD, q_nx, q_rt, q_endr, q_endn, q_I, q_I0, q_addI, q_neg, q_ixT atI_0, q_ixT atI_1, q_ixT atI_2, q_lenT, q_lenL, q_lenS, q_int1, q_intB, q_I1, q_II, q_tupT, q_tupL, q_rgL, q_lc, q_lcO, q_r1, q_r2, q_kR1, q_kR2, q_sq, q_kSqT, q_kSqL, q_kSqQ, q_isi, q_rev, q_revT, q_revL, q_wip0, q_wipS, q_unst0, q_unstS, q_yes, q_eqI, q_bls, q_sum, q_rcT, q_rcL, if_true, q_for, q_enum, q_kEnT, q_kEnL, q_repO, q_rep,
  List.map_cons, List.map_nil, List.cons_append, List.nil_append, List.length_cons, List.length_nil, List.replicate])
theorem sz {n : Nat} (h : n ≤ 16777216 := by omega) : n ≤ sizeLine := by rw [sizeLine_eq]; exact h
theorem sz2 {n : Nat} (h : n < 16777216 := by omega) : n < sizeLine := by rw [sizeLine_eq]; exact h
def T_l_bag_t : TSv := (tvSeq (tvSet 3 (tvTup (tvCons (tvC (.int 2147483647)) (tvCons (tvC (.int 2147483629)) (tvCons (tvC (.int 2147483587)) (tvCons (tvC (.int 2147483579)) (tvCons (tvC (.int 2147483563)) (tvCons (tvC (.int 2147483549)) (tvCons (tvC (.int 2147483543)) (tvCons (tvC (.int 2147483497)) tvNil))))))))))
  (tvSeq (tvSet 4 (tvOp rvAdd (tvOp rvAdd (tvOp rvAdd (tvOp rvMul (tvOp rvMod (tvVar 2) (tvOp rvIx (tvVar 3) (tvOp rvMod (tvVar 1) (tvC (.int 8))))) (tvC (.int 69623))) (tvOp rvMul (tvOp rvMul (tvC (.int 104729)) (tvVar 1)) (tvVar 1))) (tvOp rvMul (tvC (.int 7919)) (tvVar 1))) (tvC (.int 17))))
  (tvRet (tvLstO (tvCons (tvOp rvMul (tvVar 2) (tvCB (rvInt1 (fun i => .int i) fun k => .int (if k then 1 else 0)) (tvCons (tvOp rvGe (tvVar 2) (tvOp rvPow (tvC (.int 10)) (tvC (.int 18)))) tvNil))) (tvCons (tvOp rvMod (tvOp rvPow (tvVar 4) (tvC (.int 3))) (tvOp rvIx (tvVar 3) (tvOp rvMod (tvOp rvAdd (tvVar 1) (tvC (.int 3))) (tvC (.int 8))))) (tvCons (tvC (.int 0)) tvNil)))))))
def T_l_bag : TSv := (tvSeq (tvSet 2 (tvC (.int 0)))
  (tvSeq (tvIf (tvTest (tvOp rvLt (tvVar 1) (tvCB rvLen (tvCons (tvVar 0) tvNil))))
  (tvSet 2 (tvCB (rvI1 fun i => .int (if i < 0 then -i else i)) (tvCons (tvOp rvIx (tvVar 0) (tvVar 1)) tvNil)))
  tvNext) T_l_bag_t))
theorem prim_at (i : Int) (h0 : 0 ≤ i) (h1 : i < 8) : ∃ v, atI [D.int 2147483647, .int 2147483629, .int 2147483587, .int 2147483579, .int 2147483563, .int 2147483549, .int 2147483543, .int 2147483497] i = some (.int v) ∧ 0 < v ∧ v < 2147483648 := by
  have : i = 0 ∨ i = 1 ∨ i = 2 ∨ i = 3 ∨ i = 4 ∨ i = 5 ∨ i = 6 ∨ i = 7 := by omega
  rcases this with e | e | e | e | e | e | e | e <;> subst e
  · exact ⟨_, rfl, by decide, by decide⟩
  · exact ⟨_, rfl, by decide, by decide⟩
  · exact ⟨_, rfl, by decide, by decide⟩
  · exact ⟨_, rfl, by decide, by decide⟩
  · exact ⟨_, rfl, by decide, by decide⟩
  · exact ⟨_, rfl, by decide, by decide⟩
  · exact ⟨_, rfl, by decide, by decide⟩
  · exact ⟨_, rfl, by decide, by decide⟩
theorem t_l_bag : ∀ ds S Qv, F_l_bag ds S Qv → T_l_bag (endsV Qv) (stD 5 ds) S := by
  rintro ds S Qv ⟨ns, a, rfl, a0, a1, q⟩
  have key : ∀ cell : Int, 0 ≤ cell → T_l_bag_t (endsV Qv) [some (.scr (ns.map D.int)), some (.int a), some (.int cell), none, none] S := by
    intro cell c0
    unfold T_l_bag_t
    walk_at "vs"
    have m8 : 0 ≤ a % 8 ∧ a % 8 < 8 := ⟨Int.emod_nonneg _ (by omega), Int.emod_lt_of_pos _ (by omega)⟩
    have m9 : 0 ≤ (a + 3) % 8 ∧ (a + 3) % 8 < 8 := ⟨Int.emod_nonneg _ (by omega), Int.emod_lt_of_pos _ (by omega)⟩
    obtain ⟨v, ev, v0, v1⟩ := prim_at (a % 8) m8.1 m8.2
    obtain ⟨u, eu, u0, u1⟩ := prim_at ((a + 3) % 8) m9.1 m9.2
    simp only [q_ixT ev, q_ixT eu, q_I, q_addI]
    have e1 : 0 ≤ cell % v := Int.emod_nonneg _ (by omega)
    have e2 : cell % v < v := Int.emod_lt_of_pos _ v0
    generalize hz : cell % v = z at e1 e2
    have e3 : 0 ≤ 104729 * a * a := Int.mul_nonneg (by omega) a0
    have e4 : 104729 * a * a ≤ 104729000 * 1000 := Int.mul_le_mul (by omega) a1 a0 (by omega)
    have e5 : 0 ≤ (z * 69623 + 104729 * a * a + 7919 * a + 17) ^ (3 : Int).toNat % u := Int.emod_nonneg _ (by omega)
    have e6 : (z * 69623 + 104729 * a * a + 7919 * a + 17) ^ (3 : Int).toNat % u < u := Int.emod_lt_of_pos _ u0
    generalize 104729 * a * a = y at *
    generalize hr : (z * 69623 + y + 7919 * a + 17) ^ (3 : Int).toNat % u = r at e5 e6
    refine ⟨sz, by omega, v0, cmul_r (by omega) (by omega), cmul_l (by omega) (by omega), cmul_r (by omega) (by omega), cmul_l (by omega) (by omega), ⟨by omega, by omega, by omega⟩, ?_, ⟨by omega, by omega, by omega⟩, by omega, u0, sz, fun p hp => ?_⟩
    · refine cmul_r ?_ ?_ <;> (split <;> omega)
    · refine fin_of (q p _ _ hp ⟨?_, e5, by omega, by omega, by omega⟩)
      exact Int.mul_nonneg c0 (by split <;> omega)
  unfold T_l_bag
  walk_at "vs"
  by_cases h : a < (ns.map D.int).length
  · rw [if_pos (decide_eq_true h)]
    have hl : a.toNat < ns.length := by rw [List.length_map] at h; omega
    have e : atI (ns.map D.int) a = some (.int ns[a.toNat]) := by
      have e' : atI (ns.map D.int) ((a.toNat : Nat) : Int) = some (.int ns[a.toNat]) := by
        refine atI_nat ?_
        rw [List.getElem?_map]
        simp [hl]
      rwa [Int.toNat_of_nonneg a0] at e'
    rw [q_ixS e]
    simp only [q_I1]
    exact key _ (by split <;> omega)
  · rw [if_neg (fun e => h (of_decide_eq_true e))]
    exact key 0 (by omega)
end VL
namespace VL
open PySem PySem.Spec PyProof.Rows L2
local macro_rules | `(tactic| walk_at "vs") => `(tactic| simp only [q_var0, q_varS, q_sat0, q_satS, q_C, q_op, q_un, q_test, q_kB, q_not, q_and, q_or, q_ifE, q_andV, q_orV, q_notV, q_chain, q_nil, q_cons, q_tup, q_lst, q_lstO, q_CB, q_BM, q_call, q_seq, q_next, q_set, q_drop, q_ret, q_if, q_setIx, q_stD, q_nx, q_rt, q_endr, q_endn, q_I, q_I0, q_addI, q_neg, q_ixT atI_0, q_ixT atI_1, q_ixT atI_2, q_lenT, q_lenL, q_lenS, q_int1, q_intB, q_I1, q_II, q_tupT, q_tupL, q_rgL, q_lc, q_lcO, q_r1, q_r2, q_kR1, q_kR2, q_sq, q_kSqT, q_kSqL, q_kSqQ, q_isi, q_rev, q_revT, q_revL, q_wip0, q_wipS, q_unst0, q_unstS, q_yes, q_eqI, q_bls, q_sum, q_rcT, q_rcL, if_true, q_for, q_enum, q_kEnT, q_kEnL, q_repO, q_rep,
  List.map_cons, List.map_nil, List.cons_append, List.nil_append, List.length_cons, List.length_nil, List.replicate])
theorem q_popAt {S : Own} {Q : KE} {p : Addr} {xs : List D} {i : Int} {k : Nat} {d : D} (hS : S p = some (.lst xs)) (h : ixN xs.length i = some k) (hl : xs.length < 2 ^ 63) (hd : xs[k]? = some d) (q : Q d (ust S p (.lst (xs.eraseIdx k)))) : rvPopAt (.ref p) [.int i] S Q := by
  simp only [rvPopAt, ownL, hS, h, hd]
  exact ⟨hl, q⟩
def Off2 (S S' : Own) (p q : Addr) : Prop := ∀ a, a ≠ p → a ≠ q → S' a = S a
/-- 1 .. n -/
def upto (n : Nat) : List Int := (List.range n).map fun i : Nat => (i : Int) + 1
theorem rngD_upto : ∀ (n : Nat) (lo : Int), rngD lo n = ((List.range n).map fun i : Nat => (lo + (i : Int))).map D.int
  | 0, _ => rfl
  | n + 1, lo => by
    rw [List.range_succ_eq_map, List.map_cons, List.map_map, List.map_cons]
    simp only [rngD]
    rw [rngD_upto n (lo + 1)]
    congr 1
    · simp
    · congr 1
      apply List.map_congr_left
      intro i _
      simp only [Function.comp]
      omega
theorem rngD_1 (n : Nat) : rngD 1 n = (upto n).map D.int := by
  rw [rngD_upto]; unfold upto; congr 1; apply List.map_congr_left; intro i _; omega
theorem rngD_0 (n : Nat) : rngD 0 n = ((List.range n).map fun i => ((i : Nat) : Int)).map D.int := by
  rw [rngD_upto]; congr 1; apply List.map_congr_left; intro i _; omega
theorem upto_length (n : Nat) : (upto n).length = n := by simp [upto]
def F_l_row : FS := fun ds S Q => ∃ p c r n N, ∃ k : Nat, ds = [.ref p, .int k] ∧ S p = some (.lst (bagD c r n)) ∧ BagOk c r n N ∧ N + k ≤ 2 ^ 40 ∧ k ≤ 1000 ∧
  ∀ c' r' n' (ns : List Int), BagOk c' r' n' (N + k) → ns.Perm (upto k) → Q (.tup (ns.map D.int)) (ust S p (.lst (bagD c' r' n')))
def T_l_row_e : TEv := (tvBMr rcL rvPopAt (tvVar 2) (tvCons (tvCall F_l_take (tvCons (tvVar 0) (tvCons (tvCB rvLen (tvCons (tvVar 2) tvNil)) tvNil))) tvNil))
def T_l_row : TSv := (tvSeq (tvSet 2 (tvRgL kLstO (tvC (.int 1)) (tvOp rvAdd (tvVar 1) (tvC (.int 1)))))
  (tvRet (tvCB rvTuple (tvCons (tvLc (tvRng1 (tvCons (tvVar 1) tvNil)) (.name 3) ttYes T_l_row_e [3]) tvNil))))
theorem map_erase : ∀ (ls : List Int) (i : Nat), (ls.map D.int).eraseIdx i = (ls.eraseIdx i).map D.int
  | [], _ => rfl
  | _ :: _, 0 => rfl
  | a :: r, i + 1 => by simp only [List.map_cons, List.eraseIdx_cons_succ, map_erase r i]
theorem perm_erase {ls : List Int} {k : Nat} {x : Int} (h : ls[k]? = some x) : (x :: ls.eraseIdx k).Perm ls := by
  induction ls generalizing k with
  | nil => simp at h
  | cons a r ih =>
    cases k with
    | zero => simp at h; subst h; simp
    | succ k =>
      simp only [List.getElem?_cons_succ] at h
      simp only [List.eraseIdx_cons_succ]
      exact (List.Perm.swap a x _).trans ((ih h).cons a)
theorem row_comp {k : Int} {x : Option D} {p q : Addr} (hpq : p ≠ q) : ∀ (ds : List D) (ls : List Int) (S : Own) (c r n N : Int) (Q : List D → Own → Prop), ds.length = ls.length → ls.length ≤ 1000 → S p = some (.lst (bagD c r n)) → S q = some (.lst (ls.map D.int)) → BagOk c r n N → N + ls.length ≤ 2 ^ 40 →
    (∀ (ms : List Int) S' c' r' n', ms.Perm ls → S' p = some (.lst (bagD c' r' n')) → BagOk c' r' n' (N + ls.length) → Off2 S S' p q → Q (ms.map D.int) S') →
    compV (.name 3) ttYes T_l_row_e [some (.ref p), some (.int k), some (.ref q), x] ds S Q
  | [], ls, S, c, r, n, N, Q, hl, h1, hp, hq, hb, hN, q => by
    have : ls = [] := List.eq_nil_of_length_eq_zero hl.symm
    subst this
    rw [comp_nil]
    exact q [] S c r n .nil hp (hb.mono (by simp)) fun a _ _ => rfl
  | d :: ds, ls, S, c, r, n, N, Q, hl, h1, hp, hq, hb, hN, qq => by
    rw [comp_cons bind_name]
    unfold T_l_row_e
    walk_at "vs"
    rw [q_rcO hq, q_lenO hq]
    have hl0 : 0 < ls.length := by rw [← hl]; simp
    refine ⟨trivial, ?_⟩
    refine ⟨p, _, c, r, n, N, rfl, hp, hb, by omega, by rw [List.length_map]; omega, by rw [List.length_map]; omega, fun c' r' n' j hb' j0 j1 => ?_⟩
    rw [List.length_map] at j1
    have hq' : ust S p (.lst (bagD c' r' n')) q = some (.lst (ls.map D.int)) := by rw [ust_ne (Ne.symm hpq)]; exact hq
    obtain ⟨i, rfl⟩ := Int.eq_ofNat_of_zero_le j0
    have hi : i < ls.length := by omega
    have he : (ls.map D.int)[i]? = some (.int ls[i]) := by rw [List.getElem?_map]; simp [hi]
    refine q_popAt hq' (ixN_of (by rw [List.length_map]; exact hi)) (by rw [List.length_map]; omega) he ?_
    have her : (ls.map D.int).eraseIdx i = (ls.eraseIdx i).map D.int := map_erase ls i
    rw [her]
    have hln : (ls.eraseIdx i).length = ls.length - 1 := List.length_eraseIdx_of_lt hi
    refine row_comp hpq ds (ls.eraseIdx i) _ c' r' n' (N + 1) _ (by rw [hln, ← hl]; simp) (by omega) (by rw [ust_ne hpq, ust_same]) ust_same hb' (by omega) ?_
    intro ms S' c2 r2 n2 hm hp2 hb2 ho
    refine qq (ls[i] :: ms) S' c2 r2 n2 ((hm.cons _).trans (perm_erase (by simp [hi]))) hp2 (hb2.mono (by omega)) fun a ha hb => ?_
    rw [ho a ha hb, ust_ne hb, ust_ne ha]
theorem sub_off2 {S S' : Own} {p q : Addr} {o : Ob} (h : Off2 S S' p q) (hp : S' p = some o) (hq : S q = none) (hpq : p ≠ q) : Sub (ust S p o) S' := fun a u e => by
  by_cases z : a = p
  · subst z; rw [ust_same] at e; rw [hp, e]
  · rw [ust_ne z] at e
    rw [h a z (own_ne e hq)]; exact e
theorem t_l_row : ∀ ds S Qv, F_l_row ds S Qv → T_l_row (endsV Qv) (stD 4 ds) S := by
  rintro ds S Qv ⟨p, c, r, n, N, k, rfl, hS, hb, hN, hk, q⟩
  unfold T_l_row
  walk_at "vs"
  refine ⟨1, (k : Int) + 1, rfl, RgOk.of_le (by omega) (by omega) (by omega) (by omega), fun t ht => ?_⟩
  have e : (((k : Int) + 1 - 1).toNat) = k := by omega
  rw [e]
  simp only [q_sat0, q_satS]
  have hpt : p ≠ t := own_ne hS ht
  refine ⟨by omega, by rw [rngD_length]; exact sz, ?_⟩
  rw [rngD_1]
  have e2 : ((k : Int)).toNat = k := by omega
  rw [e2]
  refine row_comp hpt _ (upto k) _ c r n N _ (by rw [rngD_length, upto_length]) (by rw [upto_length]; exact hk) (by rw [ust_ne hpt]; exact hS) ust_same hb (by rw [upto_length]; exact hN) ?_
  intro ms S' c' r' n' hm hp hb' ho
  rw [upto_length] at hb'
  exact fin_sub (sub_off2 (fun a h1 h2 => by rw [ho a h1 h2, ust_ne h2]) hp ht hpt) (q c' r' n' ms hb' hm)
def F_l_whole : FS := fun ds S Q => ∃ d n, ds = [d] ∧ tyN (vw S d) = some n ∧ Q (.bl (isInt (vw S d) && !isBool (vw S d))) S
def T_l_whole : TSv := (tvRet (tvAndV (tvIsi isInt (tvVar 0)) (tvNotV (tvIsi isBool (tvVar 0)))))
theorem t_l_whole : ∀ ds S Qv, F_l_whole ds S Qv → T_l_whole (endsV Qv) (stD 1 ds) S := by
  rintro ds S Qv ⟨d, n, rfl, hn, q⟩
  unfold T_l_whole
  walk_at "vs"
  refine ⟨n, hn, ?_⟩
  cases h : isInt (vw S d) with
  | false =>
    rw [h] at q
    simp only [Bool.false_eq_true, if_false]
    exact fin_of q
  | true =>
    rw [h] at q
    simp only [if_true]
    exact ⟨n, hn, fin_of q⟩
def wholeD : D → Bool
  | .int _ => true
  | _ => false
theorem whole_eq {S : Own} (d : D) (n : String) (h : tyN (vw S d) = some n) (hr : ∀ a, d ≠ .ref a) : (isInt (vw S d) && !isBool (vw S d)) = wholeD d := by
  cases d <;> simp only [vw] <;> first | rfl | exact absurd rfl (hr _)
theorem all_whole : ∀ {xs : List D}, xs.all wholeD = true → ∃ ns : List Int, xs = ns.map D.int
  | [], _ => ⟨[], rfl⟩
  | x :: r, h => by
    simp only [List.all_cons, Bool.and_eq_true] at h
    obtain ⟨ns, e⟩ := all_whole h.2
    cases x <;> simp only [wholeD] at h <;> try (exact absurd h.1 (by decide))
    rename_i i
    exact ⟨i :: ns, by rw [e]; rfl⟩
def isRowI (ns : List Int) : Bool := decide (1 ≤ ns.length ∧ ns.length ≤ 40) && (List.range ns.length).all fun k => ns.count ((k : Int) + 1) == 1
def isRowD : D → Bool
  | .tup xs => match intsD xs with
    | some ns => isRowI ns
    | none => false
  | _ => false
theorem toPs_ints : ∀ ns : List Int, toPs (ns.map D.int) = some (ns.map PyData.int)
  | [] => rfl
  | n :: ns => by simp only [List.map_cons, toPs, toP, toPs_ints ns]
theorem countP_ints (i : Int) : ∀ ns : List Int, ((ns.map PyData.int).countP fun y => PyData.eqv y (.int i)) = ns.count i
  | [] => rfl
  | n :: ns => by
    rw [List.map_cons, List.countP_cons, List.count_cons, countP_ints i ns]
    rfl
theorem q_countI {S : Own} {Q : KE} {ns : List Int} {i : Int} : rvCount (.tup (ns.map D.int)) [.int i] S Q = Q (.int (ns.count i : Nat)) S := by
  have e : toP (vw S (.tup (ns.map D.int))) = some (.tuple (ns.map PyData.int)) := by simp only [vw, toP, toPs_ints]
  unfold rvCount
  rw [e]
  simp only [toP, PyData.depth, Nat.zero_le, true_and, countP_ints]
def T_l_is_row : TSv := (tvSeq (tvIf (tvOr (tvNot (tvTest (tvIsi isTup (tvVar 0)))) (tvOr (tvNot (tvTest (tvChain rvLe rvLe (tvC (.int 1)) (tvCB rvLen (tvCons (tvVar 0) tvNil)) (tvC (.int 40))))) (tvNot (tvTest (tvCB (rvBls fun bs => bs.all id) (tvCons (tvLc (tvSq (tvVar 0)) (.name 1) ttYes (tvCall F_l_whole (tvCons (tvVar 1) tvNil)) [1]) tvNil))))))
  (tvRet (tvC (.bl false)))
  tvNext)
  (tvRet (tvCB (rvBls fun bs => bs.all id) (tvCons (tvLc (tvRng1 (tvCons (tvCB rvLen (tvCons (tvVar 0) tvNil)) tvNil)) (.name 2) ttYes (tvOp rvEq (tvBMr rcT (fun x ds S Q => isTup (vw S x) = true ∧ rvCount x ds S Q) (tvVar 0) (tvCons (tvOp rvAdd (tvVar 2) (tvC (.int 1))) tvNil)) (tvC (.int 1))) [2]) tvNil))))
def F_l_is_row : FS := fun ds S Q => ∃ d n, ds = [d] ∧ tyN (vw S d) = some n ∧ (isTup (vw S d) = true → ∃ xs, d = .tup xs ∧ xs.length ≤ 1000000 ∧ ∀ x ∈ xs, (∀ a, x ≠ .ref a) ∧ ∃ n, tyN x = some n) ∧ Q (.bl (isRowD d)) S
theorem vw_no {S : Own} {d : D} (h : ∀ a, d ≠ .ref a) : vw S d = d := by
  cases d <;> simp only [vw]
  exact absurd rfl (h _)
theorem not_tup_row {S : Own} {d : D} (h : isTup (vw S d) = false) : isRowD d = false := by
  cases d <;> first | rfl | (simp [vw, isTup] at h)
theorem t_l_is_row : ∀ ds S Qv, F_l_is_row ds S Qv → T_l_is_row (endsV Qv) (stD 3 ds) S := by
  rintro ds S Qv ⟨d, n, rfl, hn, ht, q⟩
  unfold T_l_is_row
  walk_at "vs"
  refine ⟨n, hn, ?_⟩
  cases h : isTup (vw S d) with
  | false =>
    rw [not_tup_row h] at q
    simp only [Bool.not_false, if_true]
    exact fin_of q
  | true =>
    obtain ⟨xs, rfl, hl, hx⟩ := ht h
    simp only [Bool.not_true, Bool.false_eq_true, if_false]
    walk_at "vs"
    have qf : (isRowD (.tup xs) = false) → fin Qv (.bl false) S := fun e => by rw [e] at q; exact fin_of q
    by_cases h1 : (1 : Int) ≤ xs.length
    · rw [if_pos (decide_eq_true h1)]
      by_cases h40 : (xs.length : Int) ≤ 40
      · rw [decide_eq_true h40]
        simp only [Bool.not_true, Bool.false_eq_true, if_false]
        refine ⟨sz, comp_map (fun d => .bl (wholeD d)) xs _ (fun x hxm => ⟨_, bind_name, fun Q' q' => ?_⟩) ?_⟩
        · walk_at "vs"
          obtain ⟨nr, m, hm⟩ := hx x hxm
          have hv : vw S x = x := vw_no nr
          refine ⟨x, m, rfl, by rw [hv]; exact hm, ?_⟩
          rw [whole_eq x m (by rw [hv]; exact hm) nr]; exact q'
        · have e : xs.map (fun d => D.bl (wholeD d)) = (xs.map wholeD).map D.bl := by rw [List.map_map]; rfl
          rw [e]
          walk_at "vs"
          have e2 : (xs.map wholeD).all id = xs.all wholeD := by rw [List.all_map]; rfl
          rw [e2]
          cases hw : xs.all wholeD with
          | false =>
            simp only [Bool.not_false, if_true]
            refine qf ?_
            unfold isRowD
            dsimp only
            cases hi : intsD xs with
            | none => rfl
            | some ns =>
              rw [intsD_of hi, List.all_map] at hw
              simp [Function.comp_def, wholeD] at hw
          | true =>
            obtain ⟨ns, rfl⟩ := all_whole hw
            simp only [Bool.not_true, Bool.false_eq_true, if_false]
            rw [List.length_map] at h1 h40
            simp only [List.length_map]
            refine ⟨by omega, by rw [rngD_length]; exact sz, ?_⟩
            rw [rngD_0]
            refine comp_map (fun d => match d with | .int i => .bl (decide (((ns.count (i + 1) : Nat) : Int) = 1)) | _ => .non) _ _ (fun x hxm => ⟨_, bind_name, fun Q' q' => ?_⟩) ?_
            · obtain ⟨i, hi, rfl⟩ := List.mem_map.mp hxm
              walk_at "vs"
              refine ⟨trivial, rfl, ?_⟩
              rw [q_countI]
              unfold rvEq
              rw [q_eqI]
              exact q'
            · rw [List.map_map, List.map_map]
              have e3 : (List.range (↑ns.length : Int).toNat).map (((fun d => match d with | D.int i => D.bl (decide (((ns.count (i + 1) : Nat) : Int) = 1)) | _ => .non) ∘ D.int) ∘ fun i => ((i : Nat) : Int)) = ((List.range ns.length).map fun k : Nat => ns.count ((k : Int) + 1) == 1).map D.bl := by
                rw [List.map_map]
                have e4 : ((ns.length : Nat) : Int).toNat = ns.length := by omega
                rw [e4]
                apply List.map_congr_left
                intro k _
                simp only [Function.comp]
                congr 1
                by_cases hc : ns.count ((k : Int) + 1) = 1
                · rw [hc]; rfl
                · rw [decide_eq_false (by omega)]
                  exact (beq_eq_false_iff_ne.mpr hc).symm
              rw [e3]
              walk_at "vs"
              refine fin_of ?_
              have e5 : isRowD (.tup (ns.map D.int)) = ((List.range ns.length).map fun k : Nat => ns.count ((k : Int) + 1) == 1).all id := by
                unfold isRowD
                simp only [intsD_map, isRowI, List.all_map]
                rw [decide_eq_true (by omega : 1 ≤ ns.length ∧ ns.length ≤ 40)]
                rfl
              rw [e5] at q
              exact q
      · rw [decide_eq_false h40]
        simp only [Bool.not_false, if_true]
        refine qf ?_
        unfold isRowD
        dsimp only
        cases hi : intsD xs with
        | none => rfl
        | some ns =>
          have := intsD_of hi
          subst this
          rw [List.length_map] at h40
          dsimp only
          unfold isRowI
          rw [decide_eq_false (by omega)]; rfl
    · rw [if_neg (fun e => h1 (of_decide_eq_true e))]
      simp only [Bool.not_false, if_true]
      refine qf ?_
      have : xs = [] := List.eq_nil_of_length_eq_zero (by omega)
      subst this
      rfl
end VL
namespace VL
open PySem PySem.Spec PyProof.Rows L2
def del (S : Own) (p : Addr) : Own := fun a => if a = p then none else S a
theorem del_same {S : Own} {p : Addr} : del S p p = none := by unfold del; rw [if_pos rfl]
theorem del_ne {S : Own} {p a : Addr} (h : a ≠ p) : del S p a = S a := by unfold del; rw [if_neg h]
theorem del_sub {S : Own} {p : Addr} : Sub (del S p) S := fun a o e => by
  by_cases z : a = p
  · subst z; rw [del_same] at e; cases e
  · rw [del_ne z] at e; exact e
/-- an expression whose owned list is let go -/
def tvLet (T : TEv) : TEv := fun ρ S Q => T ρ S fun d S1 => ∃ p xs, d = .ref p ∧ S1 p = some (.lst xs) ∧ Q (.lst xs) (del S1 p)
section
variable {X : Cx}
theorem v_let {e : Expr} {T : TEv} (h : PE X e (upE X.K T)) : PE X e (upE X.K (tvLet T)) := pe_imp h fun σ H Q ⟨Z, ρ, S, Qv, m, r, h, b⟩ => ⟨Z, ρ, S, _, m, r, h, fun d v H1 S1 e1 m1 r1 h1 => by
  obtain ⟨p, xs, rfl, hp, q⟩ := h1
  obtain ⟨z, ho, h3, h4⟩ := m1.own p _ hp
  cases ho <;> simp only [RpO] at h4
  simp only [Rp] at r1
  subst r1
  exact b (.lst xs) _ H1 _ (e1.trans (ext_sub del_sub)) (sim_sub m1 del_sub) (rp_lst h3 del_same z (h4.ext (ext_sub del_sub))) q⟩
theorem i_seqF {tg l : Expr} {T : TEv} (hl : PE X l (upE X.K T)) : PI X tg l (upI X.K (tvSq (tvLet T))) := i_seq (v_let hl)
end
theorem q_let {T : TEv} {ρ : VS} {S : Own} {Q : KE} : tvLet T ρ S Q = T ρ S (fun d S1 => ∃ p xs, d = .ref p ∧ S1 p = some (.lst xs) ∧ Q (.lst xs) (del S1 p)) := rfl
def F_lw (n : Nat) : FS := fun ds _ Q => ∃ ns : List Int, ds = [.scr (ns.map D.int)] ∧ ns.length ≤ n ∧ ∀ S', Q (.bl true) S'
theorem lw_start {n : Nat} {K : PySem.W.Frag} {H : Hp} {a : Addr} {ns : List Int} (hl : ns.length ≤ n) (hS : SqL K H a (ns.map V.int)) : spV K (F_lw n) [.ref a] H (fun v _ => v = .bl true) fun _ _ _ => False :=
  ⟨fun _ => False, fun _ => none, [.scr (ns.map D.int)], fun d _ => d = .bl true, ⟨(fun a ob e => by cases e), (fun a e => False.elim e)⟩, by
    refine rps_cons ?_ rps_nil
    simp only [Rp]
    refine ⟨a, ns.map V.int, rfl, ?_, rps_of_ints⟩
    rcases hS with h | h
    · exact .inl ⟨h, by trivial, fun z => z⟩
    · exact .inr h, ⟨ns, rfl, hl, fun _ => rfl⟩, fun d v H' S' e m r q => by
    subst q
    simp only [Rp] at r
    exact r⟩
end VL
namespace VL
open PySem PySem.Spec PyProof.Rows L2
theorem for_all {t : Tg} {Tb : TSv} {Dv : EndsV} (I : Nat → VS → Own → Prop) : ∀ (ds : List D) (n : Nat) (ρ : VS) (S : Own),
    (∀ i d ρ S, ds[i]? = some d → I (n + i) ρ S → ∃ ρ2, bindV t d ρ = some ρ2 ∧ ∀ k : VS → Own → Prop, (∀ ρ' S', I (n + i + 1) ρ' S' → k ρ' S') → Tb { nx := k, ct := k, bk := Dv.nx, rt := Dv.rt } ρ2 S) →
    I n ρ S → (∀ ρ S, I (n + ds.length) ρ S → Dv.nx ρ S) → forV t Tb Dv ds ρ S
  | [], n, ρ, S, h, i0, q => by rw [for_nil]; exact q ρ S i0
  | d :: ds, n, ρ, S, h, i0, q => by
    obtain ⟨ρ2, hb, hk⟩ := h 0 d ρ S rfl i0
    rw [for_cons hb]
    refine hk _ fun ρ' S' i1 => for_all I ds (n + 1) ρ' S' (fun i d' ρ S hd hi => ?_) i1 fun ρ S hi => q ρ S ?_
    · have := h (i + 1) d' ρ S (by simpa using hd) (by rw [show n + (i + 1) = n + 1 + i by omega]; exact hi)
      rw [show n + (i + 1) = n + 1 + i by omega] at this
      exact this
    · rw [List.length_cons, show n + (ds.length + 1) = n + 1 + ds.length by omega]; exact hi
theorem for_inv {t : Tg} {Tb : TSv} {Dv : EndsV} {ds : List D} {ρ : VS} {S : Own} (I : Nat → VS → Own → Prop) (h : ∀ i d ρ S, ds[i]? = some d → I i ρ S → ∃ ρ2, bindV t d ρ = some ρ2 ∧ ∀ k : VS → Own → Prop, (∀ ρ' S', I (i + 1) ρ' S' → k ρ' S') → Tb { nx := k, ct := k, bk := Dv.nx, rt := Dv.rt } ρ2 S)
    (i0 : I 0 ρ S) (q : ∀ ρ S, I ds.length ρ S → Dv.nx ρ S) : forV t Tb Dv ds ρ S :=
  for_all I ds 0 ρ S (fun i d ρ S hd hi => by rw [Nat.zero_add] at hi ⊢; exact h i d ρ S hd hi) i0 fun ρ S hi => by rw [Nat.zero_add] at hi; exact q ρ S hi
/-- a comprehension without test that changes what is owned -/
theorem comp_all {t : Tg} {Te : TEv} {ρ : VS} (I : Nat → List D → Own → Prop) : ∀ (ds : List D) (n : Nat) (ys : List D) (S : Own) (Q : List D → Own → Prop),
    (∀ i d ys S, ds[i]? = some d → I (n + i) ys S → ∃ ρ2, bindV t d ρ = some ρ2 ∧ ∀ k : KE, (∀ y S', I (n + i + 1) (ys ++ [y]) S' → k y S') → Te ρ2 S k) → I n ys S →
    (∀ zs S', I (n + ds.length) (ys ++ zs) S' → Q zs S') → compV t ttYes Te ρ ds S Q
  | [], n, ys, S, Q, h, i0, q => by rw [comp_nil]; exact q [] S (by simpa using i0)
  | d :: ds, n, ys, S, Q, h, i0, q => by
    obtain ⟨ρ2, hb, hk⟩ := h 0 d ys S rfl i0
    rw [comp_cons hb]
    simp only [q_yes, if_true]
    refine hk _ fun y S' i1 => comp_all I ds (n + 1) (ys ++ [y]) S' _ (fun i d' ys' S hd hi => ?_) i1 fun zs S'' hi => q (y :: zs) S'' ?_
    · have := h (i + 1) d' ys' S (by simpa using hd) (by rw [show n + (i + 1) = n + 1 + i by omega]; exact hi)
      rw [show n + (i + 1) = n + 1 + i by omega] at this
      exact this
    · rw [List.length_cons, show n + (ds.length + 1) = n + 1 + ds.length by omega]
      simpa using hi
theorem comp_inv {t : Tg} {Te : TEv} {ρ : VS} {ds : List D} {S : Own} {Q : List D → Own → Prop} (I : Nat → List D → Own → Prop) (h : ∀ i d ys S, ds[i]? = some d → I i ys S → ∃ ρ2, bindV t d ρ = some ρ2 ∧ ∀ k : KE, (∀ y S', I (i + 1) (ys ++ [y]) S' → k y S') → Te ρ2 S k)
    (i0 : I 0 [] S) (q : ∀ zs S', I ds.length zs S' → Q zs S') : compV t ttYes Te ρ ds S Q :=
  comp_all I ds 0 [] S Q (fun i d ys S hd hi => by rw [Nat.zero_add] at hi ⊢; exact h i d ys S hd hi) i0 fun zs S' hi => q zs S' (by simpa using hi)
def tupI (ns : List Int) : D := .tup (ns.map D.int)
theorem depth_ints : ∀ ns : List Int, PyData.depthAll (ns.map PyData.int) = 0
  | [] => rfl
  | n :: ns => by simp only [List.map_cons, PyData.depthAll, PyData.depth, depth_ints ns]; rfl
theorem eqvAll_ints : ∀ ns ms : List Int, PyData.eqvAll (ns.map PyData.int) (ms.map PyData.int) = decide (ns = ms)
  | [], [] => rfl
  | [], _ :: _ => rfl
  | _ :: _, [] => rfl
  | n :: ns, m :: ms => by
    simp only [List.map_cons, PyData.eqvAll, PyData.eqv, eqvAll_ints ns ms]
    by_cases h : n = m
    · subst h; simp
    · simp [h]
theorem q_eqT {S : Own} {Q : KE} {g : Bool → Bool} {ns ms : List Int} : rvEqv g (.tup (ns.map D.int)) (.tup (ms.map D.int)) S Q = Q (.bl (g (decide (ns = ms)))) S := by
  have e : ∀ ns : List Int, toP (vw S (.tup (ns.map D.int))) = some (.tuple (ns.map PyData.int)) := fun ns => by simp only [vw, toP, toPs_ints]
  rw [q_eqv (e ns) (e ms)]
  simp only [PyData.depth, depth_ints, PyData.eqv, eqvAll_ints]
  simp
theorem ix_int {ns : List Int} {j : Nat} {x : Int} (h : ns[j]? = some x) : atI (ns.map D.int) (j : Int) = some (.int x) := atI_nat (by rw [List.getElem?_map, h]; rfl)
end VL
namespace VL
open PySem PySem.Spec PyProof.Rows L2
section
variable {S : Own} {Q : KE}
theorem q_blsE {g : List Bool → Bool} {xs : List D} {bs : List Bool} (h : blsD xs = some bs) : rvBls g [.lst xs] S Q = Q (.bl (g bs)) S := by
  rw [blsD_of h]; exact q_bls
theorem q_lenI {ns : List Int} : rvLen [tupI ns] S Q = Q (.int ns.length) S := by
  show Q (.int (ns.map D.int).length) S = _
  rw [List.length_map]
theorem q_ixI {ns : List Int} {a x : Int} (h0 : 0 ≤ a) (h : ns[a.toNat]? = some x) : rvIx (tupI ns) (.int a) S Q = Q (.int x) S := by
  have := ix_int h
  rw [Int.toNat_of_nonneg h0] at this
  exact q_ixT this
theorem q_eqTI {g : Bool → Bool} {ns ms : List Int} : rvEqv g (tupI ns) (tupI ms) S Q = Q (.bl (g (decide (ns = ms)))) S := q_eqT
end
end VL
namespace VL
open PySem PySem.Spec PyProof.Rows L2
def zipD : List D → List D → List D
  | x :: xs, y :: ys => .tuq [x, y] :: zipD xs ys
  | _, _ => []
theorem zipD_length : ∀ (xs ys : List D), (zipD xs ys).length = min xs.length ys.length
  | [], ys => by simp [zipD]
  | x :: xs, [] => by simp [zipD]
  | x :: xs, y :: ys => by simp only [zipD, List.length_cons, zipD_length xs ys]; omega
theorem zipD_get : ∀ (xs ys : List D) (i : Nat) (d : D), (zipD xs ys)[i]? = some d → ∃ x y, xs[i]? = some x ∧ ys[i]? = some y ∧ d = .tuq [x, y]
  | [], ys, i, d, h => by simp [zipD] at h
  | x :: xs, [], i, d, h => by simp [zipD] at h
  | x :: xs, y :: ys, 0, d, h => by simp only [zipD, List.getElem?_cons_zero, Option.some.injEq] at h; exact ⟨x, y, rfl, rfl, h.symm⟩
  | x :: xs, y :: ys, i + 1, d, h => by
    simp only [zipD, List.getElem?_cons_succ] at h ⊢
    exact zipD_get xs ys i d h
section
variable {K : PySem.W.Frag} {H : Hp} {S : Own} {Z : Addr → Prop}
theorem itok_zipL {a b : Addr} {vs ws : List V} {xs ys : List D} (h1 : ∀ H1 S1 Z1, Stp H S Z H1 S1 Z1 → SqL K H1 a vs) (h2 : ∀ H1 S1 Z1, Stp H S Z H1 S1 Z1 → SqL K H1 b ws) (r1 : Rps K H S Z xs vs) (r2 : Rps K H S Z ys ws) : ItOk K Z (zipD xs ys) (Itz K a b) H S where
  go := fun i H1 S1 Z1 e m hi => by
    rw [zipD_length] at hi
    have l1 := r1.len
    have l2 := r2.len
    exact ⟨vs, ws, vs[i]'(by omega), ws[i]'(by omega), h1 _ _ _ e, h2 _ _ _ e, List.getElem?_eq_getElem (by omega), List.getElem?_eq_getElem (by omega)⟩
  yld := fun i H1 S1 Z1 x H2 d e m hd hy => by
    obtain ⟨T, u, v, rfl, hT, rfl, hx, hy⟩ := hy
    obtain ⟨x', y', e1, e2, rfl⟩ := zipD_get _ _ _ _ hd
    obtain ⟨u', hu, ru⟩ := rps_getD r1 e1
    obtain ⟨v', hv, rv⟩ := rps_getD r2 e2
    have eu : u = u' := by
      have := hx _ (h1 _ _ _ e)
      rw [hu] at this; exact (Option.some.inj this).symm
    have ev : v = v' := by
      have := hy _ (h2 _ _ _ e)
      rw [hv] at this; exact (Option.some.inj this).symm
    subst eu; subst ev
    exact ⟨ext_new m hT, sim_new m hT, rp_tuq upd_same (m.free hT) (rps_cons ((Rp.stp e _ _ ru).ext (ext_new m hT)) (rps_cons ((Rp.stp e _ _ rv).ext (ext_new m hT)) rps_nil))⟩
  stop := fun i H1 S1 Z1 e m hi => by
    rw [zipD_length, r1.len, r2.len] at hi
    exact ⟨vs, ws, h1 _ _ _ e, h2 _ _ _ e, by omega⟩
theorem itok_zipT {a b : Addr} {vs ws : List V} {xs ys : List D} (h1 : ∀ H1 S1 Z1, Stp H S Z H1 S1 Z1 → SqT K H1 a vs) (h2 : ∀ H1 S1 Z1, Stp H S Z H1 S1 Z1 → SqT K H1 b ws) (r1 : Rps K H S Z xs vs) (r2 : Rps K H S Z ys ws) : ItOk K Z (zipD xs ys) (RZ.ItzT K a b) H S where
  go := fun i H1 S1 Z1 e m hi => by
    rw [zipD_length] at hi
    have l1 := r1.len
    have l2 := r2.len
    exact ⟨vs, ws, vs[i]'(by omega), ws[i]'(by omega), h1 _ _ _ e, h2 _ _ _ e, List.getElem?_eq_getElem (by omega), List.getElem?_eq_getElem (by omega)⟩
  yld := fun i H1 S1 Z1 x H2 d e m hd hy => by
    obtain ⟨T, u, v, rfl, hT, rfl, hx, hy⟩ := hy
    obtain ⟨x', y', e1, e2, rfl⟩ := zipD_get _ _ _ _ hd
    obtain ⟨u', hu, ru⟩ := rps_getD r1 e1
    obtain ⟨v', hv, rv⟩ := rps_getD r2 e2
    have eu : u = u' := by
      have := hx _ (h1 _ _ _ e)
      rw [hu] at this; exact (Option.some.inj this).symm
    have ev : v = v' := by
      have := hy _ (h2 _ _ _ e)
      rw [hv] at this; exact (Option.some.inj this).symm
    subst eu; subst ev
    exact ⟨ext_new m hT, sim_new m hT, rp_tuq upd_same (m.free hT) (rps_cons ((Rp.stp e _ _ ru).ext (ext_new m hT)) (rps_cons ((Rp.stp e _ _ rv).ext (ext_new m hT)) rps_nil))⟩
  stop := fun i H1 S1 Z1 e m hi => by
    rw [zipD_length, r1.len, r2.len] at hi
    exact ⟨vs, ws, h1 _ _ _ e, h2 _ _ _ e, by omega⟩
end
/-- both lists, or both tuples -/
def zipOf : List D → Option (List D)
  | [.tup xs, .tup ys] => some (zipD xs ys)
  | [.lst xs, .lst ys] => some (zipD xs ys)
  | _ => none
def tvZip (T : TAv) : TIv := fun ρ S Q => T ρ S fun ds S1 => ∃ zs, zipOf ds = some zs ∧ Q zs S1
theorem i_zip {X : Cx} {e e2 : Expr} {T : TAv} {p pos tpos : Pos} {elts : List Expr} {kk : Nat} (hg : Gl X "zip") (hm : X.mg "zip" = none) (ha : PA X [e, e2] (upA X.K T))
    (hs : starEach [e, e2] X.env = (false, eval e X.env) :: starEach [e2] X.env := by rfl) (hpl : (backTo pos (starEach [e2] X.env)).any (·.1) = false := by rfl) :
    PI X (.Tuple elts kk tpos) (.Call (.Name "zip" p) [e, e2] [] pos) (upI X.K (tvZip T)) :=
  pi_imp (RZ.pi_zipA hg hm ha hs hpl) fun σ H R ⟨Z, ρ, S, Qv, m, r, h, bk⟩ => ⟨Z, ρ, S, _, m, r, h, fun ds vs H1 S1 e1 m1 r1 ⟨zs, hz, h1⟩ => by
    have two : ∀ (x y : D), ds = [x, y] → ∃ v w, vs = [v, w] ∧ Rp X.K H1 S1 Z x v ∧ Rp X.K H1 S1 Z y w := fun x y e => by
      subst e
      simp only [Rps] at r1
      obtain ⟨v, _, rfl, q1, w, _, rfl, q2, rfl⟩ := r1
      exact ⟨v, w, rfl, q1, q2⟩
    have h2 := h1
    unfold zipOf at hz
    split at hz
    · rename_i xs ys
      cases hz
      obtain ⟨v, w, rfl, q1, q2⟩ := two _ _ rfl
      have hb : ∀ {d : List D} {v : V}, Rp X.K H1 S1 Z (.tup d) v → ∃ a vs', v = .ref a ∧ SqT X.K H1 a vs' ∧ Rps X.K H1 S1 Z d vs' ∧ ∀ H2 S2 Z2, Stp H1 S1 Z H2 S2 Z2 → SqT X.K H2 a vs' := fun {d v} q => by
        simp only [Rp] at q
        obtain ⟨a', vs', e, h1, h2⟩ := q
        refine ⟨a', vs', e, sqT_of h1, h2, fun H2 S2 Z2 e => ?_⟩
        rcases h1 with ⟨⟨ob, h1, hd⟩, n⟩ | h1
        · exact sqT_of (S := S2) (.inl ⟨⟨ob, (e _ _ h1 n (.inl trivial)).1, hd⟩, (e _ _ h1 n (.inl trivial)).2.1⟩)
        · exact sqT_of (S := S2) (.inr h1)
      obtain ⟨a, z1, rfl, c1, c2, c3⟩ := hb q1
      obtain ⟨a', z2, rfl, d1, d2, d3⟩ := hb q2
      exact ⟨a, a', z1, z2, rfl, .inr ⟨c1, d1, bk _ _ H1 S1 e1 m1 (itok_zipT c3 d3 c2 d2) h1⟩⟩
    · rename_i xs ys
      cases hz
      obtain ⟨v, w, rfl, q1, q2⟩ := two _ _ rfl
      simp only [Rp] at q1 q2
      obtain ⟨a, z1, rfl, a1, a2, a3, a4⟩ := q1
      obtain ⟨b, z2, rfl, b1, b2, b3, b4⟩ := q2
      exact ⟨a, b, z1, z2, rfl, .inl ⟨.of a1, .of b1, bk _ _ H1 S1 e1 m1 (itok_zipL (fun H2 S2 Z2 e => .of (e _ _ a1 a2 (.inr a3)).1) (fun H2 S2 Z2 e => .of (e _ _ b1 b2 (.inr b3)).1) a4 b4) h1⟩⟩
    · cases hz⟩
theorem q_zip {T : TAv} {ρ : VS} {S : Own} {Qa : List D → Own → Prop} : tvZip T ρ S Qa = T ρ S (fun ds S1 => ∃ zs, zipOf ds = some zs ∧ Qa zs S1) := rfl
end VL
namespace VL
open PySem PySem.Spec PyProof.Rows L2
def encD (d : D) : PyData := (toP d).getD .none
def sortLe : D → D → Bool := PySem.W.dataLe false encD
theorem enc_of : ∀ {xs : List D} {ps : List PyData}, toPs xs = some ps → ps = xs.map encD ∧ ∀ x ∈ xs, ∃ p, toP x = some p
  | [], ps, h => by simp only [toPs, Option.some.injEq] at h; subst h; exact ⟨rfl, fun x hx => absurd hx List.not_mem_nil⟩
  | x :: xs, ps, h => by
    simp only [toPs] at h
    cases e1 : toP x with
    | none => rw [e1] at h; simp at h
    | some p =>
      cases e2 : toPs xs with
      | none => rw [e1, e2] at h; simp at h
      | some qs =>
        rw [e1, e2] at h; simp only [Option.some.injEq] at h; subst h
        obtain ⟨a, b⟩ := enc_of e2
        refine ⟨by rw [List.map_cons, ← a]; unfold encD; rw [e1]; rfl, fun y hy => ?_⟩
        rcases List.mem_cons.mp hy with rfl | hy
        · exact ⟨p, e1⟩
        · exact b y hy
mutual
theorem reads_mem {h : Heap} : ∀ {v : Value} {d : PyData} {as : List Addr}, Reads h v d as → ∀ x ∈ as, ∃ o, h.get? x = some o
  | _, _, _, .none, x, hx => absurd hx List.not_mem_nil
  | _, _, _, .bool b, x, hx => absurd hx List.not_mem_nil
  | _, _, _, .int i t, x, hx => absurd hx List.not_mem_nil
  | _, _, _, .str y t, x, hx => absurd hx List.not_mem_nil
  | _, _, _, .list h1 h2 h3 h4, x, hx => by
    rcases List.mem_cons.mp hx with rfl | hx
    · exact ⟨_, h1⟩
    · exact readsAll_mem h4 x hx
  | _, _, _, .tuple h1 h2 h3 h4, x, hx => readsAll_mem h4 x hx
  | _, _, _, .dict h1 h2 h3 h4 h5, x, hx => by
    rcases List.mem_append.mp hx with hx | hx
    · rcases List.mem_cons.mp hx with rfl | hx
      · exact ⟨_, h1⟩
      · exact readsAll_mem h4 x hx
    · exact readsAll_mem h5 x hx
theorem readsAll_mem {h : Heap} : ∀ {vs : List Value} {ds : List PyData} {as : List Addr}, ReadsAll h vs ds as → ∀ x ∈ as, ∃ o, h.get? x = some o
  | _, _, _, .nil, x, hx => absurd hx List.not_mem_nil
  | _, _, _, .cons h1 h2, x, hx => by
    rcases List.mem_append.mp hx with hx | hx
    · exact reads_mem h1 x hx
    · exact readsAll_mem h2 x hx
end
section
variable {prog : Program} {w : World} {A : Around} {E : Value → Shared → Prop} {s : Shared} {β : Type}
theorem sorted_seq {R : Value → β → Prop} {enc : β → PyData} {l : Addr} {T : String} {o : Obj} {items : Array Value} {n : Nat} {bs : List β} {Q : Value → Shared → Prop} (hT : T = "list" ∨ T = "tuple") (ho : s.heap.get? l = some o) (hc : o.cls = .type T) (hd : o.data = .seq items n)
    (e : PySem.W.EachIs R items.toList bs) (er : PySem.W.EachIs (fun v b => ∃ as, Reads s.heap v (enc b) as) items.toList bs) (hal : PySem.W.AllAlike (bs.map enc)) (hk : PySem.W.Sortable (bs.map enc)) (hL : bs.length ≤ sizeLine)
    (hu : ∀ b, b ∈ bs → A.units + 2 + (enc b).depth < cLine)
    (q : ∀ (h1 h2 : Heap) (a : Addr) (out : List Value) (k : Nat), (∀ b o', s.heap.get? b = some o' → h1.get? b = some o') → (∀ b o', h1.get? b = some o' → h2.get? b = some o') → h1.objs.size ≤ a → h2.get? a = some (seqObj "list" out.toArray k) → out.length = bs.length → PySem.W.EachIs R out (bs.mergeSort (PySem.W.dataLe false enc)) → Q (.ref a) { s with heap := h2 }) :
    wpAny (model prog w) A (call (.builtin "sorted") [.ref l]) Q E s := by
  have hz : items.size ≤ sizeLine := by rw [← e.length] at hL; simpa using hL
  refine Calls.call_function_entry kind_sorted plain_sorted entry_sorted (args_sorted1 _) ?_
  unfold Builtin.«sorted»
  refine wpAny_bind (m := checkCount "sorted" 1 1 _) (wpAny_pure ?_)
  refine wpAny_bind (wpAny_collect_seq l hT ho hc hd (fun h' hk' => ?_) hz)
  refine wpAny_bind (wpAny_newList ?_ (by simpa using hz))
  have k2 : ∀ b o', s.heap.get? b = some o' → (h'.push (seqObj "list" items.toList.toArray 0)).get? b = some o' := fun b o' e => Heap.get?_push_of_some _ (hk' b o' e)
  have hat : (h'.push (seqObj "list" items.toList.toArray 0)).get? h'.objs.size = some (seqObj "list" items.toList.toArray 0) := Heap.get?_push_size _ rfl
  have er2 : PySem.W.EachIs (fun v b => ∃ as, Reads (h'.push (seqObj "list" items.toList.toArray 0)) v (enc b) as ∧ h'.objs.size ∉ as) items.toList bs := er.mono fun v b ⟨as, r⟩ => ⟨as, PyProof.Rows.Reads.keeps (fun b o' e => k2 b o' e) r, fun hm => by
    obtain ⟨o', e⟩ := reads_mem r _ hm
    exact Nat.lt_irrefl _ (Heap.lt_size (hk' _ _ e))⟩
  refine wpAny_bind (wpAny_holding (PySem.W.list_sort_data (s := { s with heap := h'.push (seqObj "list" items.toList.toArray 0) }) (A := A.in1) (a := h'.objs.size) (vs := items.toList) hat e er2 hal hk hL (fun b hb => by have := hu b hb; show A.units + 1 + 1 + _ < _; omega) fun out hl ho2 => ?_))
  refine wpAny_pure ⟨_, rfl, ?_⟩
  obtain ⟨k, hk3⟩ := sortedHeap_at (vs := items.toList) (out := out.toArray) hat
  refine q h' _ _ out k hk' (fun b o' e => ?_) (Nat.le_refl _) hk3 hl ho2
  have hlt := Heap.lt_size e
  show (sortedHeap _ _ _ _).get? b = _
  rw [sortedHeap_old (Nat.ne_of_lt hlt) (by rw [Heap.size_push]; exact Nat.lt_succ_of_lt hlt)]
  exact Heap.get?_push_of_some _ e
end
section
variable {K : PySem.W.Frag} {H : Hp} {S : Own} {Z : Addr → Prop}
/-- the values that stand for d -/
def RVD (K : PySem.W.Frag) (H : Hp) (S : Own) (Z : Addr → Prop) (u : Value) (d : D) : Prop := ∃ v, RelV v u ∧ Rp K H S Z d v
theorem each_rvd : ∀ {ds : List D} {vs : List V} {us : List Value}, Rps K H S Z ds vs → Vals vs us → PySem.W.EachIs (RVD K H S Z) us ds
  | [], vs, us, r, q => by
    simp only [Rps] at r
    subst r
    cases q
    exact .nil
  | d :: ds, vs, us, r, q => by
    simp only [Rps] at r
    obtain ⟨v, r', rfl, h1, h2⟩ := r
    cases q with
    | cons q1 q2 => exact .cons ⟨v, q1, h1⟩ (each_rvd h2 q2)
theorem rvd_each : ∀ {us : List Value} {ds : List D}, PySem.W.EachIs (RVD K H S Z) us ds → ∃ vs, Vals vs us ∧ Rps K H S Z ds vs
  | [], ds, h => by
    cases h
    exact ⟨[], .nil, rps_nil⟩
  | u :: us, ds, h => by
    cases h with
    | cons h1 h2 =>
      obtain ⟨v, a, b⟩ := h1
      obtain ⟨vs, c, d⟩ := rvd_each h2
      exact ⟨v :: vs, .cons a c, rps_cons b d⟩
end
theorem each_reads {X : Cx} {pins : List (Addr × Obj)} {s : Shared} {σ : L2.St} {H : Hp} {S : Own} {Z : Addr → Prop} (I : L2.Inv X pins σ H s) : ∀ {ds : List D} {vs : List V} {us : List Value}, Rps X.K H S Z ds vs → Vals vs us → (∀ x ∈ ds, ∃ p, toP x = some p) → PySem.W.EachIs (fun v b => ∃ as, Reads s.heap v (encD b) as) us ds
  | [], vs, us, r, q, h => by
    simp only [Rps] at r
    subst r
    cases q
    exact .nil
  | d :: ds, vs, us, r, q, h => by
    simp only [Rps] at r
    obtain ⟨v, r', rfl, h1, h2⟩ := r
    cases q with
    | cons q1 q2 =>
      obtain ⟨p, hp⟩ := h d (by simp)
      have hr := Dp.reads I p v _ (dp_of d p v hp h1) q1
      refine .cons ?_ (each_reads I h2 q2 fun x hx => h x (by simp [hx]))
      unfold encD
      rw [hp]
      exact hr
def rvSort (g : List D → Own → KE → Prop) : RAv := fun ds S Q => match ds with
  | [d] => ∃ xs ps, seqD (vw S d) = some xs ∧ toPs xs = some ps ∧ PySem.W.AllAlike ps ∧ PySem.W.Sortable ps ∧ (∀ p ∈ ps, p.depth ≤ 190) ∧ xs.length ≤ sizeLine ∧ g (xs.mergeSort sortLe) S Q
  | _ => False
section
variable {X : Cx}
theorem sort_run (hu : X.A.units + 200 < cLine) (g : List D → Own → KE → Prop) (hg : ∀ (pins : List (Addr × Obj)) (s : Shared) (σ : L2.St) (H : Hp) (S : Own) (Z : Addr → Prop) (xs : List D) (vs : List V) (Qv : KE) (Q : VK) (p : Addr), Sim X.K H S Z → Rps X.K H S Z xs vs → H p = none → g xs S Qv →
      (∀ d v H' S', Ext H S H' S' → Sim X.K H' S' Z → Rp X.K H' S' Z d v → Qv d S' → Q v H') → Q (.ref p) (upd H p (.lst vs))) : CallR X (.builtin "sorted") (upC X.K (rvSort g)) := by
  intro pins s σ H vs us Q I rr h
  obtain ⟨Z, S, ds, Qv, m, r, h, b⟩ := h
  unfold rvSort at h
  split at h
  · rename_i d
    obtain ⟨v, rfl, rv⟩ := one_rps r
    obtain ⟨xs, ps, hq, hps, hal, hso, hde, hz, h⟩ := h
    obtain ⟨a, ws, rfl, h1, h2⟩ := seq_of m rv hq
    have key : ∃ (T : String) (o : Obj) (its : Array Value) (n : Nat), (T = "list" ∨ T = "tuple") ∧ s.heap.get? a = some o ∧ o.cls = .type T ∧ o.data = .seq its n ∧ Vals ws its.toList := by
      rcases h1 with h1 | h1
      · obtain ⟨its, rv, p, _⟩ := I.list h1
        obtain ⟨o, ho, hc, n, hd⟩ := p.isList
        exact ⟨_, o, _, n, .inl rfl, ho, hc, hd, by simpa using rv⟩
      · obtain ⟨its, rv, p, _⟩ := I.tuple h1
        obtain ⟨o, ho, hc, n, hd⟩ := p
        exact ⟨_, o, _, n, .inr rfl, ho, hc, hd, by simpa using rv⟩
    obtain ⟨T, o, its, n, hT, ho, hc, hd, hv⟩ := key
    rw [Vals.ref1 rr]
    obtain ⟨e1, e2⟩ := enc_of hps
    rw [e1] at hal hso hde
    refine sorted_seq (enc := encD) hT ho hc hd (each_rvd h2 hv) ?_ hal hso hz (fun x hx => ?_) fun h1 h2 p out k k1 k2 hp hat hl he => ?_
    · exact each_reads I h2 hv e2
    · have := hde _ (List.mem_map.mpr ⟨x, hx, rfl⟩)
      omega
    · obtain ⟨ys, y1, y2⟩ := rvd_each he
      have I1 : L2.Inv X pins σ H { s with heap := h1 } := I.kept (t' := s.toks) k1
      have hpn : H p = none := I1.hok.fresh hp
      refine ⟨.ref p, upd H p (.lst ys), ?_, rfl, ?_⟩
      · refine I1.laid (t' := s.toks) (fun b o e => k2 b o e) hp ⟨?_, out, k, y1, hat⟩
        rw [← y2.len, List.length_mergeSort]; exact hz
      · exact hg pins s σ H S Z _ ys Qv Q p m y2 hpn h b
  · exact h.elim
theorem c_sort (hu : X.A.units + 200 < cLine) : CallR X (.builtin "sorted") (upC X.K (rvSort kLst)) :=
  sort_run hu kLst fun pins s σ H S Z xs vs Qv Q p m r hp h b => b _ _ _ _ (ext_new m hp) (sim_new m hp) (new_lst m r hp) h
end
theorem sort_ints {xs : List Int} : (xs.map D.int).mergeSort sortLe = (xs.mergeSort (fun a b => decide (a ≤ b))).map D.int := by
  have h : sortLe = fun a b => sortLe a b := rfl
  have e : ∀ a b : Int, sortLe (.int a) (.int b) = decide (a ≤ b) := fun a b => by
    have := congrFun (congrFun (PySem.W.dataLe_int (β := Int) id) a) b
    exact this
  rw [List.map_mergeSort]
  intro a _ b _
  exact (e a b).symm
theorem allAlike_ints (xs : List Int) : PySem.W.AllAlike (xs.map PyData.int) := fun d hd d' hd' => by
  obtain ⟨a, _, rfl⟩ := List.mem_map.mp hd
  obtain ⟨b, _, rfl⟩ := List.mem_map.mp hd'
  rfl
theorem sortable_ints (xs : List Int) : PySem.W.Sortable (xs.map PyData.int) := .inr fun d hd => by
  obtain ⟨a, _, rfl⟩ := List.mem_map.mp hd
  exact ⟨(fun e => by cases e), (fun ys e => by cases e)⟩
def srt (xs : List Int) : List Int := xs.mergeSort (fun a b => decide (a ≤ b))
theorem srt_perm (xs : List Int) : (srt xs).Perm xs := List.mergeSort_perm _ _
theorem srt_sorted (xs : List Int) : (srt xs).Pairwise (· ≤ ·) := by
  have := List.pairwise_mergeSort (le := fun a b : Int => decide (a ≤ b)) (fun a b c h1 h2 => by simp at *; omega) (fun a b => by simp; omega) xs
  exact this.imp fun h => by simpa using h
/-- sorted of ints -/
theorem q_sort {S : Own} {Q : KE} {g : List D → Own → KE → Prop} {d : D} {xs : List Int} (hd : seqD (vw S d) = some (xs.map D.int)) (hz : xs.length ≤ sizeLine) (q : g ((srt xs).map D.int) S Q) : rvSort g [d] S Q := by
  refine ⟨_, _, hd, toPs_ints xs, allAlike_ints xs, sortable_ints xs, fun p hp => ?_, by rw [List.length_map]; exact hz, ?_⟩
  · obtain ⟨a, _, rfl⟩ := List.mem_map.mp hp
    exact Nat.zero_le _
  · rw [sort_ints]; exact q
end VL
namespace VL
open PySem PySem.Spec PyProof.Rows L2
def maxI : List Int → Int
  | [] => 0
  | n :: r => r.foldl max n
def minI : List Int → Int
  | [] => 0
  | n :: r => r.foldl min n
def rvMx (f : List Int → Int) : RAv := fun ds S Q => match ds with
  | [d] => ∃ ns : List Int, seqD (vw S d) = some (ns.map D.int) ∧ ns ≠ [] ∧ Q (.int (f ns)) S
  | _ => False
theorem foldmax (n : Int) : ∀ r : List Int, (∀ y ∈ n :: r, y ≤ r.foldl max n) ∧ r.foldl max n ∈ n :: r
  | [] => ⟨fun y hy => by simp at hy; subst hy; exact Int.le_refl _, by simp⟩
  | k :: r => by
    obtain ⟨a, b⟩ := foldmax (max n k) r
    simp only [List.foldl_cons]
    refine ⟨fun y hy => ?_, ?_⟩
    · have h0 := a (max n k) (by simp)
      rcases List.mem_cons.mp hy with rfl | hy
      · exact Int.le_trans (Int.le_max_left _ _) h0
      · rcases List.mem_cons.mp hy with rfl | hy
        · exact Int.le_trans (Int.le_max_right _ _) h0
        · exact a y (by simp [hy])
    · rcases List.mem_cons.mp b with e | b
      · rw [e]
        by_cases hk : n ≤ k
        · rw [Int.max_eq_right hk]; simp
        · rw [Int.max_eq_left (by omega)]; simp
      · simp [b]
theorem foldmin (n : Int) : ∀ r : List Int, (∀ y ∈ n :: r, r.foldl min n ≤ y) ∧ r.foldl min n ∈ n :: r
  | [] => ⟨fun y hy => by simp at hy; subst hy; exact Int.le_refl _, by simp⟩
  | k :: r => by
    obtain ⟨a, b⟩ := foldmin (min n k) r
    simp only [List.foldl_cons]
    refine ⟨fun y hy => ?_, ?_⟩
    · have h0 := a (min n k) (by simp)
      rcases List.mem_cons.mp hy with rfl | hy
      · exact Int.le_trans h0 (Int.min_le_left _ _)
      · rcases List.mem_cons.mp hy with rfl | hy
        · exact Int.le_trans h0 (Int.min_le_right _ _)
        · exact a y (by simp [hy])
    · rcases List.mem_cons.mp b with e | b
      · rw [e]
        by_cases hk : n ≤ k
        · rw [Int.min_eq_left hk]; simp
        · rw [Int.min_eq_right (by omega)]; simp
      · simp [b]
theorem maxI_ge {ns : List Int} {y : Int} (h : y ∈ ns) : y ≤ maxI ns := by
  cases ns with
  | nil => simp at h
  | cons n r => exact (foldmax n r).1 y h
theorem maxI_mem {ns : List Int} (h : ns ≠ []) : maxI ns ∈ ns := by
  cases ns with
  | nil => exact absurd rfl h
  | cons n r => exact (foldmax n r).2
theorem minI_le {ns : List Int} {y : Int} (h : y ∈ ns) : minI ns ≤ y := by
  cases ns with
  | nil => simp at h
  | cons n r => exact (foldmin n r).1 y h
theorem minI_mem {ns : List Int} (h : ns ≠ []) : minI ns ∈ ns := by
  cases ns with
  | nil => exact absurd rfl h
  | cons n r => exact (foldmin n r).2
theorem reads_ints {h : Heap} : ∀ {us : List Value} {ns : List Int}, Vals (ns.map V.int) us → ∃ as, ReadsAll h us (ns.map PyData.int) as
  | us, [], v => by cases v; exact ⟨[], .nil⟩
  | us, n :: ns, v => by
    cases v with
    | cons v1 v2 =>
      obtain ⟨t, rfl⟩ := v1
      obtain ⟨as, r⟩ := reads_ints (h := h) v2
      exact ⟨[] ++ as, .cons (.int n t) r⟩
theorem alikeAll_int (ns : List Int) : PySem.W.AlikeAll (ns.map PyData.int) := ⟨fun d hd d' hd' => by
  obtain ⟨a, _, rfl⟩ := List.mem_map.mp hd
  obtain ⟨b, _, rfl⟩ := List.mem_map.mp hd'
  rfl, fun d hd e => by
  obtain ⟨a, _, rfl⟩ := List.mem_map.mp hd
  cases e⟩
section
variable {X : Cx}
theorem mx_run (hc : X.calm = true) (hu : X.A.units + 200 < cLine) : CallR X (.builtin "max") (upC X.K (rvMx maxI)) := by
  intro pins s σ H vs us Q I rr h
  obtain ⟨Z, S, ds, Qv, m, r, h, b⟩ := h
  unfold rvMx at h
  split at h
  · rename_i d
    obtain ⟨v, rfl, rv⟩ := one_rps r
    obtain ⟨ns, hq, hne, h⟩ := h
    obtain ⟨a, ws, rfl, h1, h2⟩ := seq_of m rv hq
    rw [rps_ints h2] at h1
    rw [Vals.ref1 rr]
    obtain ⟨n, r, rfl⟩ : ∃ n r, ns = n :: r := by
      cases ns with
      | nil => exact absurd rfl hne
      | cons n r => exact ⟨n, r, rfl⟩
    have fin : ∀ (i : Nat) (v : Value) (h' : Heap) (tk : Nat) (bs : List Addr), Reads h' v (PySem.W.maxD (.int n) (r.map PyData.int)) bs → (∀ b o, s.heap.get? b = some o → h'.get? b = some o) → EP X pins σ Q v { s with heap := h', toks := tk } := fun i v h' tk bs hr hk => by
      rw [PySem.W.maxD_ints] at hr
      cases hr
      exact ⟨.int (maxI (n :: r)), H, I.kept hk, ⟨_, rfl⟩, b _ _ H S .refl m (by simp only [Rp]) h⟩
    have hd : PyData.depthAll ((n :: r).map PyData.int) = 0 := depth_ints _
    rcases h1 with h1 | h1
    · obtain ⟨its, rv, p, _⟩ := I.list h1
      obtain ⟨as, hr⟩ := reads_ints (h := s.heap) rv
      exact PySem.W.max_list_data (I.ok.hd hc) p.isList (by simpa using hr) (alikeAll_int (n :: r)) (by show _ + 1 + PyData.depthAll ((n :: r).map PyData.int) < _; rw [hd]; omega) fun i v h' tk bs _ hr hk => fin i v h' tk bs hr hk
    · obtain ⟨its, rv, p, _⟩ := I.tuple h1
      obtain ⟨as, hr⟩ := reads_ints (h := s.heap) rv
      exact PySem.W.max_tuple_data (I.ok.hd hc) p (by simpa using hr) (alikeAll_int (n :: r)) (by show _ + 1 + PyData.depthAll ((n :: r).map PyData.int) < _; rw [hd]; omega) fun i v h' tk bs _ hr hk => fin i v h' tk bs hr hk
  · exact h.elim
theorem mn_run (hc : X.calm = true) (hu : X.A.units + 200 < cLine) : CallR X (.builtin "min") (upC X.K (rvMx minI)) := by
  intro pins s σ H vs us Q I rr h
  obtain ⟨Z, S, ds, Qv, m, r, h, b⟩ := h
  unfold rvMx at h
  split at h
  · rename_i d
    obtain ⟨v, rfl, rv⟩ := one_rps r
    obtain ⟨ns, hq, hne, h⟩ := h
    obtain ⟨a, ws, rfl, h1, h2⟩ := seq_of m rv hq
    rw [rps_ints h2] at h1
    rw [Vals.ref1 rr]
    obtain ⟨n, r, rfl⟩ : ∃ n r, ns = n :: r := by
      cases ns with
      | nil => exact absurd rfl hne
      | cons n r => exact ⟨n, r, rfl⟩
    have fin : ∀ (i : Nat) (v : Value) (h' : Heap) (tk : Nat) (bs : List Addr), Reads h' v (PySem.W.minD (.int n) (r.map PyData.int)) bs → (∀ b o, s.heap.get? b = some o → h'.get? b = some o) → EP X pins σ Q v { s with heap := h', toks := tk } := fun i v h' tk bs hr hk => by
      rw [PySem.W.minD_ints] at hr
      cases hr
      exact ⟨.int (minI (n :: r)), H, I.kept hk, ⟨_, rfl⟩, b _ _ H S .refl m (by simp only [Rp]) h⟩
    have hd : PyData.depthAll ((n :: r).map PyData.int) = 0 := depth_ints _
    rcases h1 with h1 | h1
    · obtain ⟨its, rv, p, _⟩ := I.list h1
      obtain ⟨as, hr⟩ := reads_ints (h := s.heap) rv
      exact PySem.W.min_list_data (I.ok.hd hc) p.isList (by simpa using hr) (alikeAll_int (n :: r)) (by show _ + 1 + PyData.depthAll ((n :: r).map PyData.int) < _; rw [hd]; omega) fun i v h' tk bs _ hr hk => fin i v h' tk bs hr hk
    · obtain ⟨its, rv, p, _⟩ := I.tuple h1
      obtain ⟨as, hr⟩ := reads_ints (h := s.heap) rv
      exact PySem.W.min_tuple_data (I.ok.hd hc) p (by simpa using hr) (alikeAll_int (n :: r)) (by show _ + 1 + PyData.depthAll ((n :: r).map PyData.int) < _; rw [hd]; omega) fun i v h' tk bs _ hr hk => fin i v h' tk bs hr hk
  · exact h.elim
def rvStr : RAv := fun ds S Q => match ds with
  | [.int i] => i.natAbs.log2 < 1920 ∧ Q (.str (toString i)) S
  | _ => False
theorem c_str : CallR X (.type "str") (upC X.K rvStr) := callR_imp call_str_int fun xs H Q ⟨Z, S, ds, Qv, m, r, h, b⟩ => by
  unfold rvStr at h
  split at h
  · obtain ⟨v, rfl, rv⟩ := one_rps r
    simp only [Rp] at rv
    exact ⟨_, by rw [rv], h.1, b _ _ H S .refl m (by simp only [Rp]) h.2⟩
  · exact h.elim
theorem rps_strs {K : PySem.W.Frag} {H : Hp} {S : Own} {Z : Addr → Prop} : ∀ {ns : List Str} {vs : List V}, Rps K H S Z (ns.map D.str) vs → vs = ns.map V.str
  | [], vs, r => by simpa [Rps] using r
  | n :: ns, vs, r => by
    simp only [List.map_cons, Rps, Rp] at r
    obtain ⟨v, r', rfl, rfl, h⟩ := r
    rw [rps_strs h]; rfl
def rvJoin : D → RAv := fun x ds S Q => match x, ds with
  | .str a, [d] => ∃ ys : List Str, seqD (vw S d) = some (ys.map D.str) ∧ (ys.map (·.length)).sum + ys.length * a.length ≤ 16777216 ∧ Q (.str (Txt.join a ys)) S
  | _, _ => False
theorem m_join : MtR X "str.join" (upM X.K rvJoin) := mtR_imp mt_join fun x xs H Q ⟨Z, S, dx, ds, Qv, m, rx, rs, h, b⟩ => by
  unfold rvJoin at h
  split at h
  · rename_i a d
    obtain ⟨ys, hq, hz, h⟩ := h
    obtain ⟨v, rfl, rv⟩ := one_rps rs
    simp only [Rp] at rx
    obtain ⟨p, ws, rfl, h1, h2⟩ := seq_of m rv hq
    rw [rps_strs h2] at h1
    exact ⟨a, p, ys, rx, rfl, h1, hz, b _ _ H S .refl m (by simp only [Rp]) h⟩
  · exact h.elim
theorem v_gint {x : Str} {i : Int} {pos : Pos} (hm : ∃ t, X.mg x = some (.int i t)) (hg : Gl X x := by rfl) (hd : (x == ("__debug__" : Str)) = false := by decide) : PE X (.Name x pos) (upE X.K (tvC (.int i))) := by
  obtain ⟨t, hm⟩ := hm
  exact vc (pe_glob (v := .int i) hg hm ⟨t, rfl⟩ hd) fun _ _ _ => by simp only [Rp]
theorem pget_list : PGet X (rIxL X.K) := by
  intro pins s σ H o i ov iv Q I ro ri h
  obtain ⟨p, xs, k, z, rfl, rfl, hq, he, q⟩ := h
  cases ro
  obtain ⟨t, rfl⟩ := ri
  obtain ⟨its, r, pl, hz⟩ := I.list hq
  obtain ⟨j, h1, h2, h3, h4, h5⟩ := atI_get he
  obtain ⟨u, ew, rw'⟩ := r.get h2
  have hl := r.length
  have hn := line63
  have fin : EP X pins σ Q u s := ⟨z, H, I, rw', q⟩
  by_cases h0 : 0 ≤ k
  · have hj : k.toNat = j := by
      rw [seqIndex_of h0 h5] at h1
      exact Option.some.inj h1
    exact wpAny_getItem_list pl.isList h0 (by omega) (by rw [hj]; simpa using ew) fin
  · have hj : (k + (its.toArray.size : Int)).toNat = j := by
      rw [seqIndex_neg (by omega) h4] at h1
      rw [List.size_toArray, ← hl]
      exact Option.some.inj h1
    exact wpAny_getItem_list_neg pl.isList (by omega) (by rw [List.size_toArray] <;> omega) (by omega) (by rw [hj]; simpa using ew) fin
/-- o[i] += e: o owned -/
def tvAugIx (Te To Ti : TEv) : TSv := fun Dv ρ S => To ρ S fun o S1 => Ti ρ S1 fun i S2 => ∃ p xs k a, o = .ref p ∧ S2 p = some (.lst xs) ∧ i = .int k ∧ atI xs k = some (.int a) ∧ Te ρ S2 fun d S3 => ∃ c, d = .int c ∧ rvSet o i (.int (a + c)) S3 fun S4 => Dv.nx ρ S4
theorem s_augIx {o i e : Expr} {pos tpos : Pos} {Te To Ti : TEv} (he : PE X e (upE X.K Te)) (ho : PE X o (upE X.K To)) (hi : PE X i (upE X.K Ti))
    (ha : ∀ ov iv new, augStore i ov iv new = (do holding [new, ov, iv] (setItem ov iv new); release [new, ov, iv] []; pure .next) := by intros; rfl) : PS X (.AugAssign (.Subscript o i tpos) .Add e pos) (upS X.K (tvAugIx Te To Ti)) :=
  ps_imp (ps_augS ho hi pget_list he ip_add set_list ha) fun E σ H ⟨Z, ρ, S, Dv, m, r, h, b⟩ => ⟨Z, ρ, S, _, m, r, h, fun d v H1 S1 e1 m1 r1 h1 => ⟨Z, ρ, S1, _, m1, r.ext e1, h1, fun d2 v2 H2 S2 e2 m2 r2 h2 => by
    obtain ⟨p, xs, k, a, rfl, hp, rfl, hx, h2⟩ := h2
    obtain ⟨ws, hw, rw'⟩ := m2.lst hp
    obtain ⟨w, hw1, hw2⟩ := atI_rps rw' hx
    simp only [Rp] at r1 r2 hw2
    subst r1; subst r2; subst hw2
    exact ⟨p, ws, k, _, rfl, rfl, .of hw, hw1, Z, ρ, S2, _, m2, (r.ext e1).ext e2, h2, fun d3 v3 H3 S3 e3 m3 r3 ⟨c, ec, h3⟩ => by
      subst ec
      simp only [Rp] at r3
      exact ⟨a, c, rfl, r3, set_of (o := .ref p) (i := .int k) (d := .int (a + c)) m3 (by simp only [Rp]) (by simp only [Rp]) (by simp only [Rp]) h3 fun H4 S4 e4 m4 h4 => b.nx ρ σ H4 S4 (((e1.trans e2).trans e3).trans e4) m4 ((((r.ext e1).ext e2).ext e3).ext e4) h4⟩⟩⟩⟩
end
end VL
namespace VL
open PySem PySem.Spec PyProof.Rows L2
theorem cal_rec {P : Program} {w : World} {K : PySem.W.Frag} {mg : Str → Option Value} {base : Heap} {x : Str} {ps : List Str} {f : Addr} {fd : FuncData} {G : Nat → FS} {L : Nat} (h0 : ∀ ds S Q, ¬ G 0 ds S Q) (hm : mg x = some (.ref f)) (hk : PySem.W.keepIn K (.ref f) = true) (hb : Binds K fd ps [])
    (step : ∀ n, Cal P w K mg base (L + n) x ps (G n) → FnOk P w K mg base CX0 (L + n + 1) f fd ps (spV K (G (n + 1)))) : ∀ n, Cal P w K mg base (L + n) x ps (G n)
  | 0 => ⟨f, fd, ⟨fun vs H Q E ⟨Z, S, ds, Qv, m, r, h, b⟩ => (h0 _ _ _ h).elim, fun A outer s H args us vs Q E hr he hbi hv ⟨Z, S, ds, Qv, m, r, h, b⟩ => (h0 _ _ _ h).elim⟩, hm, hk, hb⟩
  | n + 1 => ⟨f, fd, step n (cal_rec h0 hm hk hb step n), hm, hk, hb⟩
end VL
namespace VL
open PySem PySem.Spec PyProof.Rows L2
section
variable {ρ : VS} {S : Own} {Q : KE}
theorem q_slv {R : D → Option Int → Option Int → Own → KE → Prop} {T : TEv} {Tl Th : TOv} : tvSl R T Tl Th ρ S Q = T ρ S (fun d S1 => Tl ρ S1 fun l S2 => Th ρ S2 fun u S3 => R d l u S3 Q) := rfl
theorem q_noPart {Qo : Option Int → Own → Prop} : tvNoPart ρ S Qo = Qo none S := rfl
def kP (Qo : Option Int → Own → Prop) : KE := fun d S => match d with
  | .int i => Qo (some i) S
  | _ => False
theorem q_part {T : TEv} {Qo : Option Int → Own → Prop} : tvPart T ρ S Qo = T ρ S (kP Qo) := rfl
theorem q_kP {Qo : Option Int → Own → Prop} {i : Int} : kP Qo (.int i) S = Qo (some i) S := rfl
theorem q_slT {xs : List D} {lo hi : Option Int} : rvSl (.tup xs) lo hi S Q = Q (.tup (cutD xs lo hi)) S := rfl
theorem q_slL {xs : List D} {lo hi : Option Int} : rvSl (.lst xs) lo hi S Q = Q (.lst (cutD xs lo hi)) S := rfl
end
theorem six0 {n d : Nat} {a : Int} (h : 0 ≤ a) : HT.sIx n d (some a) = min a.toNat n := by
  have := HT.sIx_nat n d a.toNat
  rwa [Int.toNat_of_nonneg h] at this
theorem cut_to {xs : List D} {a : Int} (h : 0 ≤ a) : cutD xs none (some a) = xs.take a.toNat := by
  unfold cutD
  rw [six0 h, HT.sIx_none, List.drop_zero, Nat.sub_zero, List.take_eq_take_iff]
  omega
theorem cut_from {xs : List D} {a : Int} (h : 0 ≤ a) : cutD xs (some a) none = xs.drop a.toNat := by
  unfold cutD
  rw [six0 h, HT.sIx_none]
  by_cases hl : a.toNat ≤ xs.length
  · rw [Nat.min_eq_left hl, List.take_of_length_le (by rw [List.length_drop]; omega)]
  · rw [Nat.min_eq_right (by omega), List.drop_eq_nil_of_le (Nat.le_refl _), List.drop_eq_nil_of_le (by omega)]; simp
theorem cut_mid {xs : List D} {a b : Int} (h : 0 ≤ a) (h2 : 0 ≤ b) : cutD xs (some a) (some b) = (xs.drop a.toNat).take (b.toNat - a.toNat) := by
  unfold cutD
  rw [six0 h, six0 h2]
  by_cases hl : a.toNat ≤ xs.length
  · rw [Nat.min_eq_left hl, List.take_eq_take_iff, List.length_drop]
    omega
  · rw [Nat.min_eq_right (show xs.length ≤ a.toNat by omega), List.drop_eq_nil_of_le (Nat.le_refl _), List.drop_eq_nil_of_le (show xs.length ≤ a.toNat by omega)]; simp
theorem cut_len {xs : List D} {lo hi : Option Int} : (cutD xs lo hi).length ≤ xs.length := by
  unfold cutD; rw [List.length_take, List.length_drop]; omega
theorem ix_mem {xs : List D} {i : Int} (h0 : 0 ≤ i) (h1 : i < xs.length) : ∃ e, e ∈ xs ∧ atI xs i = some e := by
  obtain ⟨k, rfl⟩ := Int.eq_ofNat_of_zero_le h0
  have hk : k < xs.length := by omega
  exact ⟨xs[k], List.getElem_mem hk, atI_nat (List.getElem?_eq_getElem hk)⟩
def flatD (w : Nat) : D → Prop
  | .non => True
  | .bl _ => True
  | .int i => i.natAbs ≤ 10 ^ 60 + w
  | .str _ => True
  | _ => False
def ThD (w : Nat) : Nat → D → Prop
  | 0, d => flatD w d
  | n + 1, d => flatD w d ∨ ∃ xs, (d = .tup xs ∨ d = .lst xs) ∧ xs.length ≤ w ∧ ∀ x ∈ xs, ThD w n x
theorem flatD.mono {w v : Nat} (h : w ≤ v) : ∀ {d : D}, flatD w d → flatD v d
  | .non, _ => trivial
  | .bl _, _ => trivial
  | .int i, q => Nat.le_trans q (by omega)
  | .str _, _ => trivial
theorem ThD.flat {w : Nat} {d : D} : ∀ {n : Nat}, flatD w d → ThD w n d
  | 0, h => h
  | _ + 1, h => .inl h
theorem ThD.mono {w v : Nat} (h : w ≤ v) : ∀ {n m : Nat} {d : D}, n ≤ m → ThD w n d → ThD v m d
  | 0, m, d, hn, q => .flat (flatD.mono h q)
  | n + 1, 0, d, hn, q => by omega
  | n + 1, m + 1, d, hn, q => by
    rcases q with q | ⟨xs, e, hl, hx⟩
    · exact .inl (flatD.mono h q)
    · exact .inr ⟨xs, e, by omega, fun x hm => ThD.mono h (by omega) (hx x hm)⟩
theorem ThD.tup {w n : Nat} {xs : List D} (hl : xs.length ≤ w) (hx : ∀ x ∈ xs, ThD w n x) : ThD w (n + 1) (.tup xs) := .inr ⟨xs, .inl rfl, hl, hx⟩
theorem ThD.lst {w n : Nat} {xs : List D} (hl : xs.length ≤ w) (hx : ∀ x ∈ xs, ThD w n x) : ThD w (n + 1) (.lst xs) := .inr ⟨xs, .inr rfl, hl, hx⟩
theorem ThD.noref {w : Nat} {d : D} : ∀ {n : Nat}, ThD w n d → ∀ a, d ≠ .ref a
  | 0, h, a, e => by subst e; exact h
  | n + 1, h, a, e => by
    subst e
    rcases h with h | ⟨xs, e, _⟩
    · exact h
    · rcases e with e | e <;> cases e
theorem ThD.ty {w : Nat} {d : D} : ∀ {n : Nat}, ThD w n d → ∃ m, tyN d = some m
  | 0, h => by cases d <;> first | exact ⟨_, rfl⟩ | exact h.elim
  | n + 1, h => by
    rcases h with h | ⟨xs, e, _⟩
    · exact ThD.ty (n := 0) h
    · rcases e with rfl | rfl
      · exact ⟨_, rfl⟩
      · exact ⟨_, rfl⟩
theorem toPs_of : ∀ {xs : List D} {k : Nat}, (∀ x ∈ xs, ∃ p, toP x = some p ∧ p.depth ≤ k) → ∃ ps, toPs xs = some ps ∧ PyData.depthAll ps ≤ k ∧ ps.length = xs.length
  | [], k, h => ⟨[], rfl, Nat.zero_le _, rfl⟩
  | x :: xs, k, h => by
    obtain ⟨p, hp, hd⟩ := h x (by simp)
    obtain ⟨ps, h1, h2, h3⟩ := toPs_of (xs := xs) (k := k) fun y hy => h y (by simp [hy])
    exact ⟨p :: ps, by simp only [toPs, hp, h1], by simp only [PyData.depthAll]; omega, by simp [h3]⟩
theorem ThD.data {w : Nat} : ∀ {n : Nat} {d : D}, ThD w n d → ∃ p, toP d = some p ∧ p.depth ≤ n
  | 0, d, h => by cases d <;> first | exact ⟨_, rfl, Nat.le_refl _⟩ | exact h.elim
  | n + 1, d, h => by
    rcases h with h | ⟨xs, e, hl, hx⟩
    · obtain ⟨p, a, b⟩ := ThD.data (n := 0) h
      exact ⟨p, a, by omega⟩
    · obtain ⟨ps, h1, h2, h3⟩ := toPs_of fun x hm => ThD.data (hx x hm)
      rcases e with rfl | rfl
      · exact ⟨.tuple ps, by simp only [toP, h1], by simp only [PyData.depth]; omega⟩
      · exact ⟨.list ps, by simp only [toP, h1], by simp only [PyData.depth]; omega⟩
theorem ThD.kids {w n : Nat} {xs : List D} (h : ThD w n (.tup xs)) : ∃ m, n = m + 1 ∧ xs.length ≤ w ∧ ∀ x ∈ xs, ThD w m x := by
  cases n with
  | zero => exact h.elim
  | succ m =>
    rcases h with h | ⟨ys, e, hl, hx⟩
    · exact h.elim
    · rcases e with e | e <;> cases e
      exact ⟨m, rfl, hl, hx⟩
theorem ThD.isTup {w n : Nat} {d : D} (h : ThD w n d) (ht : isTup d = true) : ∃ xs, d = .tup xs := by
  cases d <;> simp [VL.isTup] at ht
  · exact ⟨_, rfl⟩
  · cases n with
    | zero => exact h.elim
    | succ n =>
      rcases h with h | ⟨xs, e, _⟩
      · exact h.elim
      · rcases e with e | e <;> cases e
theorem thd_ints {w : Nat} {ns : List Int} (hl : ns.length ≤ w) (hb : ∀ i ∈ ns, i.natAbs ≤ 10 ^ 60 + w) : ThD w 1 (.tup (ns.map D.int)) := by
  refine .tup (by rw [List.length_map]; exact hl) fun x hx => ?_
  obtain ⟨i, hi, rfl⟩ := List.mem_map.mp hx
  exact hb i hi
/-- x != () -/
theorem q_ne0 {S : Own} {Q : KE} {g : Bool → Bool} {xs : List D} {w n : Nat} (h : ThD w n (.tup xs)) (hn : n ≤ 190) : rvEqv g (.tup xs) (.tup []) S Q = Q (.bl (g (decide (xs = [])))) S := by
  obtain ⟨m, rfl, hl, hx⟩ := h.kids
  obtain ⟨ps, h1, h2, h3⟩ := toPs_of fun x hm => ThD.data (hx x hm)
  have e1 : toP (vw S (.tup xs)) = some (.tuple ps) := by simp only [vw, toP, h1]
  have e2 : toP (vw S (.tup [])) = some (.tuple []) := rfl
  rw [q_eqv e1 e2]
  have e3 : PyData.eqv (.tuple ps) (.tuple []) = decide (xs = []) := by
    cases xs with
    | nil =>
      have : ps = [] := List.eq_nil_of_length_eq_zero h3
      subst this; rfl
    | cons x r =>
      cases ps with
      | nil => simp at h3
      | cons p ps => simp [PyData.eqv, PyData.eqvAll]
  rw [e3]
  have : PyData.depth (.tuple ps) ≤ 190 := by simp only [PyData.depth]; omega
  simp [this]
end VL
namespace VL
open PySem PySem.Spec PyProof.Rows L2
theorem q_listT {S : Own} {Q : KE} {xs : List D} : rvList [.tup xs] S Q = Q (.lst xs) S := rfl
theorem q_listL {S : Own} {Q : KE} {xs : List D} : rvList [.lst xs] S Q = Q (.lst xs) S := rfl
end VL
namespace VL
open PySem PySem.Spec PyProof.Rows L2
local macro_rules | `(tactic| walk_at "vs") => `(tactic| simp only [q_var0, q_varS, q_sat0, q_satS, q_C, q_op, q_un, q_test, q_kB, q_not, q_and, q_or, q_ifE, q_andV, q_orV, q_notV, q_chain, q_nil, q_cons, q_tup, q_lst, q_lstO, q_CB, q_BM, q_call, q_seq, q_next, q_set, q_drop, q_ret, q_if, q_setIx, q_stD, q_nx, q_rt, q_endr, q_endn, q_I, q_I0, q_addI, q_addT, q_addL, q_neg, q_ixT atI_0, q_ixT atI_1, q_ixT atI_2, q_lenT, q_lenL, q_lenS, q_int1, q_intB, q_I1, q_II, q_tupT, q_tupL, q_rgL, q_lc, q_lcO, q_r1, q_r2, q_kR1, q_kR2, q_sq, q_kSqT, q_kSqL, q_kSqQ, q_isi, q_rev, q_revT, q_revL, q_wip0, q_wipS, q_unst0, q_unstS, q_yes, q_eqI, q_bls, q_sum, q_rcT, q_rcL, if_true, q_for, q_enum, q_kEnT, q_kEnL, q_repO, q_rep, q_let, q_bind, q_slv, q_noPart, q_part, q_kP, q_slT, q_slL,
  List.map_cons, List.map_nil, List.cons_append, List.nil_append, List.length_cons, List.length_nil, List.replicate])

theorem q_eqB {S : Own} {Q : KE} {g : Bool → Bool} {a b : Bool} : rvEqv g (.bl a) (.bl b) S Q = Q (.bl (g (a == b))) S := by
  rw [q_eqv (p := .bool a) (q := .bool b) rfl rfl]
  simp only [PyData.depth, PyData.eqv, Nat.zero_le, true_and]
theorem upto_get {n k : Nat} (h : k < n) : (upto n)[k]? = some ((k : Int) + 1) := by
  unfold upto; rw [List.getElem?_map, List.getElem?_range h]; rfl
theorem mem_upto {n : Nat} {x : Int} : x ∈ upto n ↔ 1 ≤ x ∧ x ≤ n := by
  unfold upto
  rw [List.mem_map]
  constructor
  · rintro ⟨i, hi, rfl⟩
    have := List.mem_range.mp hi
    omega
  · rintro ⟨h1, h2⟩
    exact ⟨(x - 1).toNat, List.mem_range.mpr (by omega), by omega⟩
theorem upto_nodup (n : Nat) : (upto n).Nodup := by
  unfold upto
  exact (List.nodup_range).map (f := fun i : Nat => (i : Int) + 1) (fun a b h => by
    intro e
    exact h (by have : (a : Int) + 1 = (b : Int) + 1 := e; omega))
theorem upto_succ (n : Nat) : upto (n + 1) = upto n ++ [(n : Int) + 1] := by
  unfold upto; rw [List.range_succ, List.map_append]; rfl
theorem upto_sorted (n : Nat) : (upto n).Pairwise (· ≤ ·) := by
  unfold upto
  rw [List.pairwise_map]
  exact List.pairwise_lt_range.imp fun h => by omega
def Row (ns : List Int) : Prop := ns.Perm (upto ns.length)
theorem Row.nodup {ns : List Int} (h : Row ns) : ns.Nodup := h.nodup_iff.mpr (upto_nodup _)
theorem Row.mem {ns : List Int} (h : Row ns) {x : Int} : x ∈ ns ↔ 1 ≤ x ∧ x ≤ ns.length := by rw [h.mem_iff, mem_upto]
/-- as many, each of the one in the other -/
theorem perm_of_sub : ∀ {l m : List Int}, l.Nodup → (∀ x ∈ l, x ∈ m) → m.length ≤ l.length → m.Perm l
  | [], m, _, _, h => by
    have : m = [] := List.eq_nil_of_length_eq_zero (by simpa using h)
    rw [this]
  | x :: l, m, hd, hs, h => by
    have hx := hs x (by simp)
    have hp := List.perm_cons_erase hx
    refine hp.trans ((perm_of_sub (List.nodup_cons.mp hd).2 (fun y hy => ?_) ?_).cons x)
    · have hne : y ≠ x := fun e => (List.nodup_cons.mp hd).1 (e ▸ hy)
      exact (List.mem_erase_of_ne hne).mpr (hs y (by simp [hy]))
    · rw [List.length_erase_of_mem hx]
      simp only [List.length_cons] at h
      omega
theorem srt_eq {ns ms : List Int} (h : ns.Perm ms) (hs : ms.Pairwise (· ≤ ·)) : srt ns = ms :=
  List.Perm.eq_of_pairwise (le := fun a b : Int => a ≤ b) (fun a b _ _ h1 h2 => Int.le_antisymm h1 h2) (srt_sorted ns) hs ((srt_perm ns).trans h)
theorem isRowI_iff {ns : List Int} : isRowI ns = true ↔ 1 ≤ ns.length ∧ ns.length ≤ 40 ∧ Row ns := by
  unfold isRowI
  rw [Bool.and_eq_true, decide_eq_true_eq, List.all_eq_true, and_assoc]
  refine and_congr_right fun h1 => and_congr_right fun h2 => ⟨fun h => ?_, fun h k hk => ?_⟩
  · refine perm_of_sub (upto_nodup _) (fun x hx => ?_) (by rw [upto_length]; exact Nat.le_refl _)
    have hm := mem_upto.mp hx
    have := h (x - 1).toNat (List.mem_range.mpr (by omega))
    rw [show (((x - 1).toNat : Nat) : Int) + 1 = x by omega] at this
    exact List.count_pos_iff.mp (by have := beq_iff_eq.mp this; omega)
  · have hk := List.mem_range.mp hk
    have hm : ((k : Int) + 1) ∈ ns := h.mem.mpr ⟨by omega, by omega⟩
    rw [h.nodup.count, if_pos hm]
    rfl
theorem row_srt {ns : List Int} : srt ns = upto ns.length ↔ Row ns :=
  ⟨fun h => by
    have := (srt_perm ns).symm
    rw [h] at this
    exact this, fun h => srt_eq h (upto_sorted _)⟩
abbrev F_p_is_whole : FS := F_l_whole
abbrev T_p_is_whole : TSv := T_l_whole
theorem t_p_is_whole : ∀ ds S Qv, F_p_is_whole ds S Qv → T_p_is_whole (endsV Qv) (stD 1 ds) S := t_l_whole
def F_p_is_row : FS := fun ds S Q => ∃ w n d, ds = [d] ∧ ThD w n d ∧ w ≤ 1000 ∧ n ≤ 100 ∧ Q (.bl (isRowD d)) S
def T_p_is_row : TSv := (tvSeq (tvIf (tvOr (tvNot (tvTest (tvIsi isTup (tvVar 0)))) (tvNot (tvTest (tvChain rvLe rvLe (tvC (.int 1)) (tvCB rvLen (tvCons (tvVar 0) tvNil)) (tvC (.int 40))))))
  (tvRet (tvC (.bl false)))
  tvNext)
  (tvRet (tvAndV (tvCB (rvBls fun bs => bs.all id) (tvCons (tvLc (tvSq (tvVar 0)) (.name 1) ttYes (tvCall F_p_is_whole (tvCons (tvVar 1) tvNil)) [1]) tvNil)) (tvOp rvEq (tvCB (rvSort kLst) (tvCons (tvVar 0) tvNil)) (tvRgL kLst (tvC (.int 1)) (tvOp rvAdd (tvCB rvLen (tvCons (tvVar 0) tvNil)) (tvC (.int 1))))))))

theorem whole_comp {S : Own} {i : Nat} {ρ : VS} {xs : List D} {Q : List D → Own → Prop} (hi : ∀ d, nth (sat ρ i d) i = some d) (hx : ∀ x ∈ xs, (∀ a, x ≠ .ref a) ∧ ∃ m, tyN x = some m) (q : Q ((xs.map wholeD).map D.bl) S) :
    compV (.name i) ttYes (tvCall F_l_whole (tvCons (tvVar i) tvNil)) ρ xs S Q := by
  refine comp_map (fun d => .bl (wholeD d)) xs _ (fun x hxm => ⟨_, bind_name, fun Q' q' => ?_⟩) ?_
  · simp only [q_call, q_cons, q_nil]
    unfold tvVar
    rw [hi x]
    obtain ⟨nr, m, hm⟩ := hx x hxm
    have hv : vw S x = x := vw_no nr
    refine ⟨x, m, rfl, by rw [hv]; exact hm, ?_⟩
    rw [whole_eq x m (by rw [hv]; exact hm) nr]; exact q'
  · rw [List.map_map] at q; exact q
theorem t_p_is_row : ∀ ds S Qv, F_p_is_row ds S Qv → T_p_is_row (endsV Qv) (stD 2 ds) S := by
  rintro ds S Qv ⟨w, n, d, rfl, hd, hw, hn, q⟩
  have hv : vw S d = d := vw_no hd.noref
  obtain ⟨tn, htn⟩ := hd.ty
  unfold T_p_is_row
  walk_at "vs"
  refine ⟨tn, by rw [hv]; exact htn, ?_⟩
  rw [hv]
  cases ht : isTup d with
  | false =>
    have e : isRowD d = false := not_tup_row (S := S) (by rw [hv]; exact ht)
    rw [e] at q
    exact fin_of q
  | true =>
    obtain ⟨xs, rfl⟩ := hd.isTup ht
    obtain ⟨m, rfl, hl, hx⟩ := hd.kids
    simp only [Bool.not_true, Bool.false_eq_true, if_false]
    walk_at "vs"
    by_cases h1 : (1 : Int) ≤ xs.length
    · rw [if_pos (decide_eq_true h1)]
      by_cases h40 : (xs.length : Int) ≤ 40
      · rw [decide_eq_true h40]
        simp only [Bool.not_true, Bool.false_eq_true, if_false]
        refine ⟨sz, whole_comp (fun _ => rfl) (fun x hxm => ⟨(hx x hxm).noref, (hx x hxm).ty⟩) ?_⟩
        simp only [q_bls, q_kB]
        have e2 : (xs.map wholeD).all id = xs.all wholeD := by rw [List.all_map]; rfl
        rw [e2]
        cases hw : xs.all wholeD with
        | false =>
          rw [if_neg (by decide)]
          have e : isRowD (.tup xs) = false := by
            unfold isRowD
            dsimp only
            cases hi : intsD xs with
            | none => rfl
            | some ns =>
              rw [intsD_of hi, List.all_map] at hw
              simp [Function.comp_def, wholeD] at hw
          rw [e] at q
          exact fin_of q
        | true =>
          rw [if_pos rfl]
          obtain ⟨ns, rfl⟩ := all_whole hw
          rw [List.length_map] at h1 h40
          refine q_sort (xs := ns) rfl sz ?_
          unfold kLst
          simp only [List.length_map]
          refine ⟨1, (ns.length : Int) + 1, rfl, RgOk.of_le (by omega) (by omega) (by omega) (by omega), ?_⟩
          have e0 : (((ns.length : Int) + 1 - 1).toNat) = ns.length := by omega
          rw [e0, rngD_1]
          have e1 : ∀ ns : List Int, toP (vw S (.lst (ns.map D.int))) = some (.list (ns.map PyData.int)) := fun ns => by simp only [vw, toP, toPs_ints]
          unfold rvEq
          rw [q_eqv (e1 _) (e1 _)]
          simp only [PyData.depth, depth_ints, PyData.eqv, eqvAll_ints]
          refine ⟨by omega, fin_of ?_⟩
          have e3 : isRowD (.tup (ns.map D.int)) = decide (srt ns = upto ns.length) := by
            simp only [isRowD, intsD_map]
            rw [Bool.eq_iff_iff, isRowI_iff, decide_eq_true_eq, row_srt]
            exact ⟨fun h => h.2.2, fun h => ⟨by omega, by omega, h⟩⟩
          rw [e3] at q
          exact q
      · rw [decide_eq_false h40]
        simp only [Bool.not_false, if_true]
        have e : isRowD (.tup xs) = false := by
          unfold isRowD
          dsimp only
          cases hi : intsD xs with
          | none => rfl
          | some ns =>
            have := intsD_of hi
            subst this
            rw [List.length_map] at h40
            dsimp only
            unfold isRowI
            rw [decide_eq_false (by omega)]; rfl
        rw [e] at q
        exact fin_of q
    · rw [if_neg (fun e => h1 (of_decide_eq_true e))]
      have : xs = [] := List.eq_nil_of_length_eq_zero (by omega)
      subst this
      exact fin_of q
end VL
namespace VL
open PySem PySem.Spec PyProof.Rows L2
def stpI (a c : Int) (n : Nat) : List Int := (List.range n).map fun i : Nat => a + (i : Int) * c
structure Stp3 (a b c : Int) (n : Nat) : Prop where
  c0 : c ≠ 0
  a1 : a.natAbs ≤ 1000000
  b1 : b.natAbs ≤ 1000000
  c1 : c.natAbs ≤ 1000000
  n1 : n ≤ 1000000
  sz : Builtin.Range.rangeSize a b c = n
def tvRgL3 (g : List D → Own → KE → Prop) (Ta Tb Tc : TEv) : TEv := fun ρ S Q => Ta ρ S fun x S1 => Tb ρ S1 fun y S2 => Tc ρ S2 fun z S3 => ∃ i j c n, x = .int i ∧ y = .int j ∧ z = .int c ∧ Stp3 i j c n ∧ g ((stpI i c n).map D.int) S3 Q
section
variable {X : Cx}
end
theorem q_rgL3 {g : List D → Own → KE → Prop} {Ta Tb Tc : TEv} {ρ : VS} {S : Own} {Q : KE} : tvRgL3 g Ta Tb Tc ρ S Q = Ta ρ S (fun x S1 => Tb ρ S1 fun y S2 => Tc ρ S2 fun z S3 => ∃ i j c n, x = .int i ∧ y = .int j ∧ z = .int c ∧ Stp3 i j c n ∧ g ((stpI i c n).map D.int) S3 Q) := rfl
end VL
namespace VL
open PySem PySem.Spec PyProof.Rows L2
local macro_rules | `(tactic| walk_at "vs") => `(tactic| simp only [q_var0, q_varS, q_sat0, q_satS, q_C, q_op, q_un, q_test, q_kB, q_not, q_and, q_or, q_ifE, q_andV, q_orV, q_notV, q_chain, q_nil, q_cons, q_tup, q_lst, q_lstO, q_CB, q_BM, q_call, q_seq, q_next, q_set, q_drop, q_ret, q_if, q_setIx, q_stD, q_nx, q_rt, q_endr, q_endn, q_I, q_I0, q_addI, q_addT, q_addL, q_neg, q_ixT atI_0, q_ixT atI_1, q_ixT atI_2, q_lenT, q_lenL, q_lenS, q_int1, q_intB, q_I1, q_II, q_tupT, q_tupL, q_rgL, q_lc, q_lcO, q_r1, q_r2, q_kR1, q_kR2, q_sq, q_kSqT, q_kSqL, q_kSqQ, q_isi, q_rev, q_revT, q_revL, q_wip0, q_wipS, q_unst0, q_unstS, q_yes, q_eqI, q_bls, q_sum, q_rcT, q_rcL, if_true, q_for, q_enum, q_kEnT, q_kEnL, q_repO, q_rep, q_let, q_bind, q_slv, q_noPart, q_part, q_kP, q_slT, q_slL, q_listT, q_listL, q_eqB, q_rgL3,
  List.map_cons, List.map_nil, List.cons_append, List.nil_append, List.length_cons, List.length_nil, List.replicate])

def seg (ns : List Int) (b e : Nat) : List Int := (ns.drop b).take (e - b)
def blk (ns : List Int) (b e : Nat) : Bool := decide (maxI (seg ns b e) - minI (seg ns b e) = (e : Int) - b - 1)
def endsL (ns : List Int) (b : Nat) : List Nat := ((List.range (ns.length - 1 - b)).map fun j => b + 2 + j).filter (blk ns b)
def strL (ns : List Int) : List (Nat × Nat) := (List.range ns.length).flatMap fun b => (endsL ns b).map fun e => (b, e)
def blocked (ns : List Int) : Bool := (List.range ns.length).any fun b => (endsL ns b).any fun e => decide (e - b < ns.length)
theorem seg_succ {ns : List Int} {b e : Nat} {x : Int} (h : b ≤ e) (hx : ns[e]? = some x) : seg ns b (e + 1) = seg ns b e ++ [x] := by
  unfold seg
  rw [show e + 1 - b = (e - b) + 1 by omega, List.take_add_one, List.getElem?_drop, show b + (e - b) = e by omega, hx]
  rfl
theorem seg_one {ns : List Int} {b : Nat} {x : Int} (hx : ns[b]? = some x) : seg ns b (b + 1) = [x] := by
  rw [seg_succ (Nat.le_refl b) hx]
  unfold seg
  simp
theorem seg_length {ns : List Int} {b e : Nat} (h : e ≤ ns.length) : (seg ns b e).length = e - b := by
  unfold seg; rw [List.length_take, List.length_drop]; omega
theorem seg_ne {ns : List Int} {b e : Nat} (h : e ≤ ns.length) (h2 : b < e) : seg ns b e ≠ [] := fun z => by
  have := seg_length (b := b) h
  rw [z] at this
  simp at this
  omega
theorem maxI_snoc {ns : List Int} (h : ns ≠ []) (x : Int) : maxI (ns ++ [x]) = if x > maxI ns then x else maxI ns := by
  cases ns with
  | nil => exact absurd rfl h
  | cons n r =>
    show (r ++ [x]).foldl max n = if x > r.foldl max n then x else r.foldl max n
    rw [List.foldl_append]
    show max (r.foldl max n) x = _
    split <;> omega
theorem minI_snoc {ns : List Int} (h : ns ≠ []) (x : Int) : minI (ns ++ [x]) = if x < minI ns then x else minI ns := by
  cases ns with
  | nil => exact absurd rfl h
  | cons n r =>
    show (r ++ [x]).foldl min n = if x < r.foldl min n then x else r.foldl min n
    rw [List.foldl_append]
    show min (r.foldl min n) x = _
    split <;> omega
theorem mem_ends {ns : List Int} {b e : Nat} : e ∈ endsL ns b ↔ b + 2 ≤ e ∧ e ≤ ns.length ∧ blk ns b e = true := by
  unfold endsL
  rw [List.mem_filter, List.mem_map]
  constructor
  · rintro ⟨⟨j, hj, rfl⟩, h⟩
    have := List.mem_range.mp hj
    exact ⟨by omega, by omega, h⟩
  · rintro ⟨h1, h2, h3⟩
    exact ⟨⟨e - b - 2, List.mem_range.mpr (by omega), by omega⟩, h3⟩
theorem blocked_iff {ns : List Int} : blocked ns = true ↔ ∃ b e, b + 2 ≤ e ∧ e ≤ ns.length ∧ blk ns b e = true ∧ e - b < ns.length := by
  unfold blocked
  simp only [List.any_eq_true, List.mem_range, decide_eq_true_eq]
  constructor
  · rintro ⟨b, hb, e, he, h⟩
    obtain ⟨h1, h2, h3⟩ := mem_ends.mp he
    exact ⟨b, e, h1, h2, h3, h⟩
  · rintro ⟨b, e, h1, h2, h3, h4⟩
    exact ⟨b, by omega, e, mem_ends.mpr ⟨h1, h2, h3⟩, h4⟩
theorem maxI_of {ns : List Int} {m : Int} (hm : m ∈ ns) (h : ∀ y ∈ ns, y ≤ m) : maxI ns = m := by
  have h1 := maxI_ge hm
  have h2 := h _ (maxI_mem (List.ne_nil_of_mem hm))
  omega
theorem minI_of {ns : List Int} {m : Int} (hm : m ∈ ns) (h : ∀ y ∈ ns, m ≤ y) : minI ns = m := by
  have h1 := minI_le hm
  have h2 := h _ (minI_mem (List.ne_nil_of_mem hm))
  omega
theorem Row.maxI {ns : List Int} (h : Row ns) (h1 : 1 ≤ ns.length) : VL.maxI ns = ns.length := maxI_of (h.mem.mpr ⟨by omega, Int.le_refl _⟩) fun y hy => (h.mem.mp hy).2
theorem Row.minI {ns : List Int} (h : Row ns) (h1 : 1 ≤ ns.length) : VL.minI ns = 1 := minI_of (h.mem.mpr ⟨Int.le_refl _, by omega⟩) fun y hy => (h.mem.mp hy).1
theorem blk_all {ns : List Int} (h : Row ns) (h1 : 1 ≤ ns.length) : blk ns 0 ns.length = true := by
  unfold blk
  have e : seg ns 0 ns.length = ns := by unfold seg; simp
  rw [e, h.maxI h1, h.minI h1]
  simp
/-- not blocked: just the whole row is a whole stretch -/
theorem str_unblocked {ns : List Int} (h : Row ns) (h2 : 2 ≤ ns.length) : strL ns = [(0, ns.length)] ↔ blocked ns = false := by
  constructor
  · intro hs
    rw [Bool.eq_false_iff]
    intro hb
    obtain ⟨b, e, h1, h3, h4, h5⟩ := blocked_iff.mp hb
    have hm : (b, e) ∈ strL ns := List.mem_flatMap.mpr ⟨b, List.mem_range.mpr (by omega), List.mem_map.mpr ⟨e, mem_ends.mpr ⟨h1, h3, h4⟩, rfl⟩⟩
    rw [hs, List.mem_singleton] at hm
    cases hm
    omega
  · intro hb
    have hn : ∀ b e, e ∈ endsL ns b → e - b = ns.length := fun b e he => by
      obtain ⟨h1, h3, h4⟩ := mem_ends.mp he
      by_cases hlt : e - b < ns.length
      · have := blocked_iff.mpr ⟨b, e, h1, h3, h4, hlt⟩
        rw [hb] at this; cases this
      · omega
    have h0 : endsL ns 0 = [ns.length] := by
      unfold endsL
      have e1 : ns.length - 1 - 0 = (ns.length - 2) + 1 := by omega
      rw [e1, List.range_succ, List.map_append, List.filter_append]
      have e2 : (((List.range (ns.length - 2)).map fun j => 0 + 2 + j).filter (blk ns 0)) = [] := by
        rw [List.filter_eq_nil_iff]
        intro x hx hbx
        obtain ⟨j, hj, rfl⟩ := List.mem_map.mp hx
        have hj := List.mem_range.mp hj
        have := hn 0 (0 + 2 + j) (mem_ends.mpr ⟨by omega, by omega, hbx⟩)
        omega
      rw [e2, List.map_cons, List.map_nil, show 0 + 2 + (ns.length - 2) = ns.length by omega, List.filter_cons, blk_all h (by omega)]
      rfl
    have hp : ∀ b, b ≠ 0 → endsL ns b = [] := fun b hb0 => by
      cases he : endsL ns b with
      | nil => rfl
      | cons e r =>
        have hm : e ∈ endsL ns b := by rw [he]; simp
        have := hn b e hm
        obtain ⟨h1, h3, h4⟩ := mem_ends.mp hm
        omega
    unfold strL
    obtain ⟨k, hk⟩ : ∃ k, ns.length = k + 1 := ⟨ns.length - 1, by omega⟩
    rw [hk, List.range_succ_eq_map, List.flatMap_cons, h0]
    have e3 : ((List.range k).map Nat.succ).flatMap (fun b => (endsL ns b).map fun e => (b, e)) = [] := by
      rw [List.flatMap_eq_nil_iff]
      intro b hbm
      obtain ⟨j, _, rfl⟩ := List.mem_map.mp hbm
      rw [hp _ (by omega)]; rfl
    rw [e3, hk]
    rfl
def F_p_whole_ends : FS := fun ds S Q => ∃ (ns : List Int) (b : Nat), ds = [tupI ns, .int b] ∧ b < ns.length ∧ ns.length ≤ 1000 ∧ Q (.lst ((endsL ns b).map fun e => .int (e : Nat))) S
def T_p_whole_ends : TSv := (tvSeq (tvSet 2 (tvLstO tvNil))
  (tvSeq (tvSet 3 (tvOp rvIx (tvVar 0) (tvVar 1)))
  (tvSeq (tvSet 4 (tvOp rvIx (tvVar 0) (tvVar 1)))
  (tvSeq (tvFor (tvRng2 (tvCons (tvOp rvAdd (tvVar 1) (tvC (.int 2))) (tvCons (tvOp rvAdd (tvCB rvLen (tvCons (tvVar 0) tvNil)) (tvC (.int 1))) tvNil))) (.name 5)
  (tvSeq (tvSet 3 (tvCB (rvII fun i j => .int (if j < i then j else i)) (tvCons (tvVar 3) (tvCons (tvOp rvIx (tvVar 0) (tvOp rvSub (tvVar 5) (tvC (.int 1)))) tvNil))))
  (tvSeq (tvSet 4 (tvCB (rvII fun i j => .int (if j > i then j else i)) (tvCons (tvVar 4) (tvCons (tvOp rvIx (tvVar 0) (tvOp rvSub (tvVar 5) (tvC (.int 1)))) tvNil))))
  (tvIf (tvTest (tvOp rvEq (tvOp rvSub (tvVar 4) (tvVar 3)) (tvOp rvSub (tvOp rvSub (tvVar 5) (tvVar 1)) (tvC (.int 1)))))
  (tvDrop (tvBMr rcL rvApp (tvVar 2) (tvCons (tvVar 5) tvNil)))
  tvNext))))
  (tvRet (tvVar 2))))))

theorem t_p_whole_ends : ∀ ds S Qv, F_p_whole_ends ds S Qv → T_p_whole_ends (endsV Qv) (stD 6 ds) S := by
  rintro ds S Qv ⟨ns, b, rfl, hb, hl, q⟩
  obtain ⟨x0, hx0⟩ : ∃ x, ns[b]? = some x := ⟨_, List.getElem?_eq_getElem hb⟩
  have hix : rvIx (tupI ns) (.int b) = fun S Q => Q (.int x0) S := by
    funext S Q
    exact q_ixI (by omega) (by rw [show ((b : Nat) : Int).toNat = b by omega]; exact hx0)
  unfold T_p_whole_ends
  walk_at "vs"
  refine ⟨Nat.zero_le _, fun p hp => ?_⟩
  simp only [hix, q_sat0, q_satS, q_lenI, q_addI, q_kR2]
  refine ⟨by omega, ?_⟩
  have en : ((ns.length : Int) + 1 - ((b : Int) + 2)).toNat = ns.length - 1 - b := by omega
  rw [en]
  have f1 : ∀ j, ((List.range (j + 1)).map fun j => b + 2 + j).filter (blk ns b) = ((List.range j).map fun j => b + 2 + j).filter (blk ns b) ++ if blk ns b (b + 2 + j) = true then [b + 2 + j] else [] := fun j => by
    rw [List.range_succ, List.map_append, List.filter_append]
    congr 1
    simp only [List.map_cons, List.map_nil, List.filter_cons, List.filter_nil]
  refine for_inv (fun i ρ S' => ∃ x5 : Option D, ρ = [some (tupI ns), some (.int b), some (.ref p), some (.int (minI (seg ns b (b + 1 + i)))), some (.int (maxI (seg ns b (b + 1 + i)))), x5] ∧
      S' = ust S p (.lst ((((List.range i).map fun j => b + 2 + j).filter (blk ns b)).map fun e => .int (e : Nat)))) (fun i d ρ S' hd hi => ?_) ⟨none, ?_, rfl⟩ fun ρ S' hi => ?_
  · obtain ⟨x5, rfl, rfl⟩ := hi
    rw [rngD_get] at hd
    split at hd
    · rename_i hlt
      cases hd
      refine ⟨_, rfl, fun k hk => ?_⟩
      simp only [sat]
      obtain ⟨x, hx⟩ : ∃ x, ns[b + 1 + i]? = some x := ⟨_, List.getElem?_eq_getElem (by omega)⟩
      have ex : ns[((b : Int) + 2 + (i : Int) - 1).toNat]? = some x := by rw [show ((b : Int) + 2 + (i : Int) - 1).toNat = b + 1 + i by omega]; exact hx
      have hne : seg ns b (b + 1 + i) ≠ [] := seg_ne (by omega) (by omega)
      have es := seg_succ (ns := ns) (b := b) (by omega) hx
      walk_at "vs"
      simp only [rvSub, q_I0, q_ixI (show (0 : Int) ≤ (b : Int) + 2 + (i : Int) - 1 by omega) ex, q_II, q_sat0, q_satS, rvEq, q_eqI, q_kB]
      have em : (if x > maxI (seg ns b (b + 1 + i)) then x else maxI (seg ns b (b + 1 + i))) = maxI (seg ns b (b + 1 + (i + 1))) := by
        rw [show b + 1 + (i + 1) = b + 1 + i + 1 by omega, es, maxI_snoc hne]
      have en : (if x < minI (seg ns b (b + 1 + i)) then x else minI (seg ns b (b + 1 + i))) = minI (seg ns b (b + 1 + (i + 1))) := by
        rw [show b + 1 + (i + 1) = b + 1 + i + 1 by omega, es, minI_snoc hne]
      rw [em, en]
      have hb2 : decide (maxI (seg ns b (b + 1 + (i + 1))) - minI (seg ns b (b + 1 + (i + 1))) = (b : Int) + 2 + i - b - 1) = blk ns b (b + 2 + i) := by
        unfold blk
        rw [show b + 1 + (i + 1) = b + 2 + i by omega]
        congr 2
      rw [hb2]
      split
      · rename_i hyes
        rw [q_rcO ust_same, q_appO ust_same]
        refine ⟨trivial, ?_, hk _ _ ⟨_, rfl, ?_⟩⟩
        · refine sz2 ?_
          rw [List.length_map]
          refine Nat.lt_of_le_of_lt (List.length_filter_le _ _) ?_
          rw [List.length_map, List.length_range]
          omega
        · rw [ust_ust, f1 i, if_pos hyes, List.map_append]
          congr 3
      · rename_i hno
        exact hk _ _ ⟨_, rfl, by rw [f1 i, if_neg hno, List.append_nil]⟩
    · cases hd
  · rw [seg_one hx0]; rfl
  · obtain ⟨x5, rfl, rfl⟩ := hi
    rw [rngD_length]
    walk_at "vs"
    exact ⟨S, fun a o h => by rw [ust_ne (own_ne h hp)]; exact h, .inr ⟨p, _, rfl, ust_same, hp, q⟩⟩
theorem fin_own {Qv : KE} {S : Own} {p : Addr} {xs : List D} (hp : S p = none) (q : Qv (.lst xs) S) : fin Qv (.ref p) (ust S p (.lst xs)) :=
  ⟨S, fun a o h => by rw [ust_ne (own_ne h hp)]; exact h, .inr ⟨p, _, rfl, ust_same, hp, q⟩⟩
def F_p_whole_stretches : FS := fun ds S Q => ∃ ns : List Int, ds = [tupI ns] ∧ ns.length ≤ 1000 ∧ Q (.lst ((strL ns).map fun be => .tup [.int (be.1 : Nat), .int (be.2 : Nat)])) S
def T_p_whole_stretches : TSv := (tvSeq (tvSet 1 (tvLstO tvNil))
  (tvSeq (tvFor (tvRng1 (tvCons (tvCB rvLen (tvCons (tvVar 0) tvNil)) tvNil)) (.name 2)
  (tvDrop (tvBMr rcL rvExt (tvVar 1) (tvCons (tvLc (tvSq (tvCall F_p_whole_ends (tvCons (tvVar 0) (tvCons (tvVar 2) tvNil)))) (.name 3) ttYes (tvTup (tvCons (tvVar 2) (tvCons (tvVar 3) tvNil))) [3]) tvNil))))
  (tvRet (tvVar 1))))

theorem ends_len {ns : List Int} {b : Nat} : (endsL ns b).length ≤ ns.length := by
  unfold endsL
  refine Nat.le_trans (List.length_filter_le _ _) ?_
  rw [List.length_map, List.length_range]
  omega
theorem flat_len {ns : List Int} : ∀ k, ((List.range k).flatMap fun b => (endsL ns b).map fun e => (b, e)).length ≤ k * ns.length
  | 0 => by simp
  | k + 1 => by
    rw [List.range_succ, List.flatMap_append, List.length_append, Nat.add_mul]
    have := flat_len (ns := ns) k
    have h2 : ([k].flatMap fun b => (endsL ns b).map fun e => (b, e)).length ≤ ns.length := by simp [ends_len]
    omega
theorem t_p_whole_stretches : ∀ ds S Qv, F_p_whole_stretches ds S Qv → T_p_whole_stretches (endsV Qv) (stD 4 ds) S := by
  rintro ds S Qv ⟨ns, rfl, hl, q⟩
  unfold T_p_whole_stretches
  walk_at "vs"
  simp only [q_lenI, q_kR1]
  refine ⟨Nat.zero_le _, fun p hp => ⟨by omega, ?_⟩⟩
  rw [show ((ns.length : Nat) : Int).toNat = ns.length by omega]
  refine for_inv (fun i ρ S' => ∃ x2 x3 : Option D, ρ = [some (tupI ns), some (.ref p), x2, x3] ∧ S' = ust S p (.lst (((List.range i).flatMap fun b => (endsL ns b).map fun e => (b, e)).map fun be => .tup [.int (be.1 : Nat), .int (be.2 : Nat)])))
    (fun i d ρ S' hd hi => ?_) ⟨none, none, rfl, rfl⟩ fun ρ S' hi => ?_
  · obtain ⟨x2, x3, rfl, rfl⟩ := hi
    rw [rngD_get] at hd
    split at hd
    · rename_i hlt
      cases hd
      refine ⟨_, rfl, fun k hk => ?_⟩
      simp only [sat, Int.zero_add]
      walk_at "vs"
      rw [q_rcO ust_same]
      refine ⟨trivial, ns, i, rfl, hlt, hl, ?_⟩
      simp only [q_kSqL]
      refine ⟨sz (by rw [List.length_map]; have := ends_len (ns := ns) (b := i); omega), comp_map (fun d => .tup [.int i, d]) _ _ (fun x hx => ⟨_, bind_name, fun Q' q' => ?_⟩) ?_⟩
      · walk_at "vs"
        exact ⟨sz, q'⟩
      · rw [q_extO ust_same]
        rw [List.length_map, List.length_map, List.length_map]
        refine ⟨?_, hk _ _ ⟨_, _, rfl, ?_⟩⟩
        · have h1 := flat_len (ns := ns) i
          have h2 := ends_len (ns := ns) (b := i)
          have h3 : i * ns.length ≤ 1000 * 1000 := Nat.mul_le_mul (by omega) hl
          rw [sizeLine_eq]
          omega
        · rw [ust_ust, List.range_succ, List.flatMap_append, List.map_append]
          congr 3
          simp
    · cases hd
  · obtain ⟨x2, x3, rfl, rfl⟩ := hi
    rw [rngD_length]
    walk_at "vs"
    exact fin_own hp q
end VL
namespace VL
open PySem PySem.Spec PyProof.Rows L2
local macro_rules | `(tactic| walk_at "vs") => `(tactic| simp only [q_var0, q_varS, q_sat0, q_satS, q_C, q_op, q_un, q_test, q_kB, q_not, q_and, q_or, q_ifE, q_andV, q_orV, q_notV, q_chain, q_nil, q_cons, q_tup, q_lst, q_lstO, q_CB, q_BM, q_call, q_seq, q_next, q_set, q_drop, q_ret, q_if, q_setIx, q_stD, q_nx, q_rt, q_endr, q_endn, q_I, q_I0, q_addI, q_addT, q_addL, q_neg, q_ixT atI_0, q_ixT atI_1, q_ixT atI_2, q_lenT, q_lenL, q_lenS, q_int1, q_intB, q_I1, q_II, q_tupT, q_tupL, q_rgL, q_lc, q_lcO, q_r1, q_r2, q_kR1, q_kR2, q_sq, q_kSqT, q_kSqL, q_kSqQ, q_isi, q_rev, q_revT, q_revL, q_wip0, q_wipS, q_unst0, q_unstS, q_yes, q_eqI, q_bls, q_sum, q_rcT, q_rcL, if_true, q_for, q_enum, q_kEnT, q_kEnL, q_repO, q_rep, q_let, q_bind, q_slv, q_noPart, q_part, q_kP, q_slT, q_slL, q_listT, q_listL, q_eqB, q_rgL3,
  List.map_cons, List.map_nil, List.cons_append, List.nil_append, List.length_cons, List.length_nil, List.replicate])

def F_l_blocked : FS := fun ds S Q => ∃ ns : List Int, ds = [tupI ns] ∧ ns.length ≤ 1000 ∧ Q (.bl (blocked ns)) S
def T_l_blocked : TSv := (tvSeq (tvFor (tvRng1 (tvCons (tvCB rvLen (tvCons (tvVar 0) tvNil)) tvNil)) (.name 1)
  (tvFor (tvRng2 (tvCons (tvOp rvAdd (tvVar 1) (tvC (.int 2))) (tvCons (tvOp rvAdd (tvCB rvLen (tvCons (tvVar 0) tvNil)) (tvC (.int 1))) tvNil))) (.name 2)
  (tvSeq (tvSet 3 (tvSl rvSl (tvVar 0) (tvPart (tvVar 1)) (tvPart (tvVar 2))))
  (tvIf (tvAnd (tvTest (tvOp rvEq (tvOp rvSub (tvCB (rvMx maxI) (tvCons (tvVar 3) tvNil)) (tvCB (rvMx minI) (tvCons (tvVar 3) tvNil))) (tvOp rvSub (tvOp rvSub (tvVar 2) (tvVar 1)) (tvC (.int 1))))) (tvTest (tvOp rvLt (tvOp rvSub (tvVar 2) (tvVar 1)) (tvCB rvLen (tvCons (tvVar 0) tvNil)))))
  (tvRet (tvC (.bl true)))
  tvNext))))
  (tvRet (tvC (.bl false))))

theorem q_slI {S : Own} {Q : KE} {ns : List Int} {lo hi : Option Int} : rvSl (tupI ns) lo hi S Q = Q (.tup (cutD (ns.map D.int) lo hi)) S := rfl
theorem cut_seg {ns : List Int} {b e : Nat} : cutD (ns.map D.int) (some (b : Int)) (some (e : Int)) = (seg ns b e).map D.int := by
  rw [cut_mid (by omega) (by omega)]
  unfold seg
  rw [show ((b : Nat) : Int).toNat = b by omega, show ((e : Nat) : Int).toNat = e by omega, List.map_take, List.map_drop]
theorem q_mxT {S : Own} {Q : KE} {f : List Int → Int} {ns : List Int} (h : ns ≠ []) (q : Q (.int (f ns)) S) : rvMx f [.tup (ns.map D.int)] S Q := ⟨ns, rfl, h, q⟩
theorem t_l_blocked : ∀ ds S Qv, F_l_blocked ds S Qv → T_l_blocked (endsV Qv) (stD 4 ds) S := by
  rintro ds S Qv ⟨ns, rfl, hl, q⟩
  unfold T_l_blocked
  walk_at "vs"
  simp only [q_lenI, q_kR1]
  refine ⟨by omega, ?_⟩
  rw [show ((ns.length : Nat) : Int).toNat = ns.length by omega]
  refine for_inv (fun i ρ S' => ∃ x1 x2 x3 : Option D, ρ = [some (tupI ns), x1, x2, x3] ∧ S' = S ∧ ∀ b e, b < i → b + 2 ≤ e → e ≤ ns.length → ¬ (blk ns b e = true ∧ e - b < ns.length))
    (fun i d ρ S' hd hi => ?_) ⟨none, none, none, rfl, rfl, fun b e hb => by omega⟩ fun ρ S' hi => ?_
  · obtain ⟨x1, x2, x3, rfl, rfl, hno⟩ := hi
    rw [rngD_get] at hd
    split at hd
    · rename_i hlt
      cases hd
      refine ⟨_, rfl, fun k hk => ?_⟩
      simp only [sat, Int.zero_add]
      walk_at "vs"
      simp only [q_lenI, q_addI, q_kR2]
      refine ⟨by omega, ?_⟩
      refine for_inv (fun j ρ S2 => ∃ x2 x3 : Option D, ρ = [some (tupI ns), some (.int i), x2, x3] ∧ S2 = S' ∧ ∀ e, i + 2 ≤ e → e < i + 2 + j → ¬ (blk ns i e = true ∧ e - i < ns.length))
        (fun j d ρ S2 hd hj => ?_) ⟨_, _, rfl, rfl, fun e h1 h2 => by omega⟩ fun ρ S2 hj => ?_
      · obtain ⟨y2, y3, rfl, rfl, hnj⟩ := hj
        rw [rngD_get] at hd
        split at hd
        · rename_i hlt2
          cases hd
          refine ⟨_, rfl, fun k2 hk2 => ?_⟩
          simp only [sat]
          have ee : (i : Int) + 2 + (j : Int) = ((i + 2 + j : Nat) : Int) := by omega
          walk_at "vs"
          simp only [q_slI, ee, cut_seg]
          have hne : seg ns i (i + 2 + j) ≠ [] := seg_ne (by omega) (by omega)
          refine q_mxT hne (q_mxT hne ?_)
          simp only [rvSub, q_I0, rvEq, q_eqI, q_kB]
          have hb2 : decide (maxI (seg ns i (i + 2 + j)) - minI (seg ns i (i + 2 + j)) = ((i + 2 + j : Nat) : Int) - i - 1) = blk ns i (i + 2 + j) := rfl
          rw [hb2]
          cases hb : blk ns i (i + 2 + j) with
          | true =>
            rw [if_pos rfl]
            simp only [q_lenI, rvLt, q_I0, q_kB]
            by_cases hlen : i + 2 + j - i < ns.length
            · rw [if_pos (decide_eq_true (by omega))]
              have : blocked ns = true := blocked_iff.mpr ⟨i, i + 2 + j, by omega, by omega, hb, hlen⟩
              rw [this] at q
              exact fin_of q
            · rw [if_neg (by rw [decide_eq_true_eq]; omega)]
              refine hk2 _ _ ⟨_, _, rfl, rfl, fun e h1 h2 => ?_⟩
              by_cases he : e = i + 2 + j
              · subst he; exact fun h => hlen h.2
              · exact hnj e h1 (by omega)
          | false =>
            rw [if_neg (by decide), if_neg (by decide)]
            refine hk2 _ _ ⟨_, _, rfl, rfl, fun e h1 h2 => ?_⟩
            by_cases he : e = i + 2 + j
            · subst he; rw [hb]; exact fun h => by cases h.1
            · exact hnj e h1 (by omega)
        · cases hd
      · obtain ⟨y2, y3, rfl, rfl, hnj⟩ := hj
        rw [rngD_length] at hnj
        refine hk _ _ ⟨_, _, _, rfl, rfl, fun b e h1 h2 h3 => ?_⟩
        by_cases hb : b = i
        · subst hb; exact hnj e h2 (by omega)
        · exact hno b e (by omega) h2 h3
    · cases hd
  · obtain ⟨x1, x2, x3, rfl, rfl, hno⟩ := hi
    rw [rngD_length] at hno
    walk_at "vs"
    have : blocked ns = false := by
      rw [Bool.eq_false_iff]
      intro hb
      obtain ⟨b, e, h1, h2, h3, h4⟩ := blocked_iff.mp hb
      exact hno b e (by omega) h1 h2 ⟨h3, h4⟩
    rw [this] at q
    exact fin_of q
def lift1 (v : Int) (x : Int) : Int := x + if v ≤ x then 1 else 0
def putIn (ns : List Int) (p : Nat) (v : Int) : List Int := (ns.map (lift1 v)).take p ++ [v] ++ (ns.map (lift1 v)).drop p
theorem putIn_length {ns : List Int} {p : Nat} {v : Int} (h : p ≤ ns.length) : (putIn ns p v).length = ns.length + 1 := by
  unfold putIn
  simp only [List.length_append, List.length_take, List.length_drop, List.length_map, List.length_cons, List.length_nil]
  omega
theorem putIn_perm {ns : List Int} {p : Nat} {v : Int} : (putIn ns p v).Perm (v :: ns.map (lift1 v)) := by
  unfold putIn
  rw [List.append_assoc]
  refine (List.perm_middle (l₁ := (ns.map (lift1 v)).take p) (a := v) (l₂ := (ns.map (lift1 v)).drop p)).trans ?_
  rw [List.take_append_drop]
theorem putIn_row {ns : List Int} {p : Nat} {v : Int} (hr : Row ns) (hp : p ≤ ns.length) (h1 : 1 ≤ v) (h2 : v ≤ ns.length + 1) : Row (putIn ns p v) := by
  unfold Row
  rw [putIn_length hp]
  refine perm_of_sub (upto_nodup _) (fun x hx => ?_) (by rw [upto_length, putIn_length hp]; exact Nat.le_refl _)
  have hm := mem_upto.mp hx
  rw [putIn_perm.mem_iff]
  by_cases e : x = v
  · rw [e]; simp
  · refine List.mem_cons_of_mem _ (List.mem_map.mpr ?_)
    by_cases hlt : x < v
    · exact ⟨x, hr.mem.mpr ⟨hm.1, by omega⟩, by unfold lift1; rw [if_neg (by omega)]; omega⟩
    · exact ⟨x - 1, hr.mem.mpr ⟨by omega, by omega⟩, by unfold lift1; rw [if_pos (by omega)]; omega⟩
/-- an unbroken row of the law's making -/
structure Unb (ns : List Int) : Prop where
  row : Row ns
  len : 4 ≤ ns.length
  free : blocked ns = false
def F_l_unbroken : FS := fun ds S Q => ∃ p c r k N, ∃ m : Nat, ds = [.ref p, .int m] ∧ 4 ≤ m ∧ m ≤ 40 ∧ S p = some (.lst (bagD c r k)) ∧ BagOk c r k N ∧ N + 50 ≤ 2 ^ 40 ∧
  ∀ c' r' k' ns, BagOk c' r' k' (N + 50) → Unb ns → ns.length ≤ m → Q (tupI ns) (ust S p (.lst (bagD c' r' k')))
def fifteen : List (List Int) := [[2, 4, 1, 3], [3, 1, 4, 2], [2, 4, 1, 5, 3], [2, 5, 3, 1, 4], [3, 1, 5, 2, 4], [3, 5, 1, 4, 2], [4, 1, 3, 5, 2], [4, 2, 5, 1, 3], [2, 4, 6, 1, 3, 5], [4, 1, 5, 2, 6, 3], [3, 6, 2, 5, 1, 4], [5, 3, 1, 6, 4, 2], [2, 6, 4, 1, 3, 5], [2, 4, 6, 3, 1, 5], [3, 6, 1, 4, 2, 5]]
theorem fifteen_ok : ∀ ns ∈ fifteen, Unb ns := by
  have h1 : (fifteen.all fun ns => isRowI ns && (decide (4 ≤ ns.length) && !blocked ns)) = true := by decide +kernel
  intro ns hns
  have h2 := List.all_eq_true.mp h1 ns hns
  simp only [Bool.and_eq_true, decide_eq_true_eq, Bool.not_eq_true'] at h2
  exact ⟨(isRowI_iff.mp h2.1).2.2, h2.2.1, h2.2.2⟩
def T_l_unbroken : TSv := (tvSeq (tvSet 2 (tvCall F_l_row (tvCons (tvVar 0) (tvCons (tvOp rvAdd (tvC (.int 4)) (tvCall F_l_take (tvCons (tvVar 0) (tvCons (tvOp rvSub (tvVar 1) (tvC (.int 3))) tvNil)))) tvNil))))
  (tvSeq (tvIf (tvNot (tvTest (tvCall F_l_blocked (tvCons (tvVar 2) tvNil))))
  (tvRet (tvVar 2))
  tvNext)
  (tvSeq (tvSet 3 (tvLst (tvCons (tvTup (tvCons (tvC (.int 2)) (tvCons (tvC (.int 4)) (tvCons (tvC (.int 1)) (tvCons (tvC (.int 3)) tvNil))))) (tvCons (tvTup (tvCons (tvC (.int 3)) (tvCons (tvC (.int 1)) (tvCons (tvC (.int 4)) (tvCons (tvC (.int 2)) tvNil))))) (tvCons (tvTup (tvCons (tvC (.int 2)) (tvCons (tvC (.int 4)) (tvCons (tvC (.int 1)) (tvCons (tvC (.int 5)) (tvCons (tvC (.int 3)) tvNil)))))) (tvCons (tvTup (tvCons (tvC (.int 2)) (tvCons (tvC (.int 5)) (tvCons (tvC (.int 3)) (tvCons (tvC (.int 1)) (tvCons (tvC (.int 4)) tvNil)))))) (tvCons (tvTup (tvCons (tvC (.int 3)) (tvCons (tvC (.int 1)) (tvCons (tvC (.int 5)) (tvCons (tvC (.int 2)) (tvCons (tvC (.int 4)) tvNil)))))) (tvCons (tvTup (tvCons (tvC (.int 3)) (tvCons (tvC (.int 5)) (tvCons (tvC (.int 1)) (tvCons (tvC (.int 4)) (tvCons (tvC (.int 2)) tvNil)))))) (tvCons (tvTup (tvCons (tvC (.int 4)) (tvCons (tvC (.int 1)) (tvCons (tvC (.int 3)) (tvCons (tvC (.int 5)) (tvCons (tvC (.int 2)) tvNil)))))) (tvCons (tvTup (tvCons (tvC (.int 4)) (tvCons (tvC (.int 2)) (tvCons (tvC (.int 5)) (tvCons (tvC (.int 1)) (tvCons (tvC (.int 3)) tvNil)))))) (tvCons (tvTup (tvCons (tvC (.int 2)) (tvCons (tvC (.int 4)) (tvCons (tvC (.int 6)) (tvCons (tvC (.int 1)) (tvCons (tvC (.int 3)) (tvCons (tvC (.int 5)) tvNil))))))) (tvCons (tvTup (tvCons (tvC (.int 4)) (tvCons (tvC (.int 1)) (tvCons (tvC (.int 5)) (tvCons (tvC (.int 2)) (tvCons (tvC (.int 6)) (tvCons (tvC (.int 3)) tvNil))))))) (tvCons (tvTup (tvCons (tvC (.int 3)) (tvCons (tvC (.int 6)) (tvCons (tvC (.int 2)) (tvCons (tvC (.int 5)) (tvCons (tvC (.int 1)) (tvCons (tvC (.int 4)) tvNil))))))) (tvCons (tvTup (tvCons (tvC (.int 5)) (tvCons (tvC (.int 3)) (tvCons (tvC (.int 1)) (tvCons (tvC (.int 6)) (tvCons (tvC (.int 4)) (tvCons (tvC (.int 2)) tvNil))))))) (tvCons (tvTup (tvCons (tvC (.int 2)) (tvCons (tvC (.int 6)) (tvCons (tvC (.int 4)) (tvCons (tvC (.int 1)) (tvCons (tvC (.int 3)) (tvCons (tvC (.int 5)) tvNil))))))) (tvCons (tvTup (tvCons (tvC (.int 2)) (tvCons (tvC (.int 4)) (tvCons (tvC (.int 6)) (tvCons (tvC (.int 3)) (tvCons (tvC (.int 1)) (tvCons (tvC (.int 5)) tvNil))))))) (tvCons (tvTup (tvCons (tvC (.int 3)) (tvCons (tvC (.int 6)) (tvCons (tvC (.int 1)) (tvCons (tvC (.int 4)) (tvCons (tvC (.int 2)) (tvCons (tvC (.int 5)) tvNil))))))) tvNil)))))))))))))))))
  (tvSeq (tvSet 3 (tvLc (tvSq (tvVar 3)) (.name 4) (tvTest (tvOp rvLe (tvCB rvLen (tvCons (tvVar 4) tvNil)) (tvVar 1))) (tvVar 4) [4]))
  (tvSeq (tvSet 2 (tvOp rvIx (tvVar 3) (tvCall F_l_take (tvCons (tvVar 0) (tvCons (tvCB rvLen (tvCons (tvVar 3) tvNil)) tvNil)))))
  (tvSeq (tvBind (.tup [(.name 5), (.name 6)]) (tvTup (tvCons (tvCall F_l_take (tvCons (tvVar 0) (tvCons (tvOp rvAdd (tvCB rvLen (tvCons (tvVar 2) tvNil)) (tvC (.int 1))) tvNil))) (tvCons (tvOp rvAdd (tvC (.int 1)) (tvCall F_l_take (tvCons (tvVar 0) (tvCons (tvOp rvAdd (tvCB rvLen (tvCons (tvVar 2) tvNil)) (tvC (.int 1))) tvNil)))) tvNil))))
  (tvSeq (tvSet 7 (tvLc (tvSq (tvVar 2)) (.name 4) ttYes (tvOp rvAdd (tvVar 4) (tvCB (rvInt1 (fun i => .int i) fun k => .int (if k then 1 else 0)) (tvCons (tvOp rvGe (tvVar 4) (tvVar 6)) tvNil))) [4]))
  (tvSeq (tvSet 8 (tvCB rvTuple (tvCons (tvOp rvAdd (tvOp rvAdd (tvSl rvSl (tvVar 7) tvNoPart (tvPart (tvVar 5))) (tvLst (tvCons (tvVar 6) tvNil))) (tvSl rvSl (tvVar 7) (tvPart (tvVar 5)) tvNoPart)) tvNil)))
  (tvRet (tvIfE (tvAnd (tvTest (tvOp rvLe (tvCB rvLen (tvCons (tvVar 8) tvNil)) (tvVar 1))) (tvNot (tvTest (tvCall F_l_blocked (tvCons (tvVar 8) tvNil))))) (tvVar 8) (tvVar 2)))))))))))

/-- where a number is put in, step by step: the lifted list, then the pieces -/
theorem lift_comp {S : Own} {ρ : VS} {i j : Nat} {ns : List Int} {v : Int} {Q : List D → Own → Prop} (hi : ∀ d, nth (sat ρ i d) i = some d) (hj : ∀ d, nth (sat ρ i d) j = some (.int v)) (q : Q ((ns.map (lift1 v)).map D.int) S) :
    compV (.name i) ttYes (tvOp rvAdd (tvVar i) (tvCB (rvInt1 (fun i => .int i) fun k => .int (if k then 1 else 0)) (tvCons (tvOp rvGe (tvVar i) (tvVar j)) tvNil))) ρ (ns.map D.int) S Q := by
  refine comp_map (fun d => match d with | .int x => .int (lift1 v x) | _ => .non) _ _ (fun d hd => ⟨_, bind_name, fun Q' q' => ?_⟩) ?_
  · obtain ⟨x, _, rfl⟩ := List.mem_map.mp hd
    simp only [q_op, q_CB, q_cons, q_nil]
    unfold tvVar
    rw [hi, hj]
    simp only [rvGe, q_I0, q_intB, q_addI]
    have e : lift1 v x = x + (if decide (v ≤ x) = true then 1 else 0) := by
      unfold lift1
      by_cases h : v ≤ x
      · rw [if_pos h, if_pos (decide_eq_true h)]
      · rw [if_neg h, if_neg (by rw [decide_eq_true_eq]; exact h)]
    have q2 : Q' (.int (lift1 v x)) S := q'
    rw [e] at q2
    exact q2
  · rw [List.map_map] at q ⊢
    exact q
theorem cut_put {ns : List Int} {v : Int} {a : Int} (h : 0 ≤ a) : cutD ((ns.map (lift1 v)).map D.int) none (some a) ++ [D.int v] ++ cutD ((ns.map (lift1 v)).map D.int) (some a) none = (putIn ns a.toNat v).map D.int := by
  rw [cut_to h, cut_from h]
  unfold putIn
  simp only [List.map_append, List.map_take, List.map_drop, List.map_cons, List.map_nil]
end VL
namespace VL
open PySem PySem.Spec PyProof.Rows L2
local macro_rules | `(tactic| walk_at "vs") => `(tactic| simp only [q_var0, q_varS, q_sat0, q_satS, q_C, q_op, q_un, q_test, q_kB, q_not, q_and, q_or, q_ifE, q_andV, q_orV, q_notV, q_chain, q_nil, q_cons, q_tup, q_lst, q_lstO, q_CB, q_BM, q_call, q_seq, q_next, q_set, q_drop, q_ret, q_if, q_setIx, q_stD, q_nx, q_rt, q_endr, q_endn, q_I, q_I0, q_addI, q_addT, q_addL, q_neg, q_ixT atI_0, q_ixT atI_1, q_ixT atI_2, q_lenT, q_lenL, q_lenS, q_int1, q_intB, q_I1, q_II, q_tupT, q_tupL, q_rgL, q_lc, q_lcO, q_r1, q_r2, q_kR1, q_kR2, q_sq, q_kSqT, q_kSqL, q_kSqQ, q_isi, q_rev, q_revT, q_revL, q_wip0, q_wipS, q_unst0, q_unstS, q_yes, q_eqI, q_bls, q_sum, q_rcT, q_rcL, if_true, q_for, q_enum, q_kEnT, q_kEnL, q_repO, q_rep, q_let, q_bind, q_slv, q_noPart, q_part, q_kP, q_slT, q_slL, q_listT, q_listL, q_eqB, q_rgL3,
  List.map_cons, List.map_nil, List.cons_append, List.nil_append, List.length_cons, List.length_nil, List.replicate])

theorem q_takeI {S : Own} {Q : KE} {p : Addr} {m c r n N : Int} (hS : S p = some (.lst (bagD c r n))) (hb : BagOk c r n N) (hN : N ≤ 2 ^ 40) (h0 : 0 < m) (h1 : m < 1073741824)
    (q : ∀ c' r' n' d, BagOk c' r' n' (N + 1) → 0 ≤ d → d < m → Q (.int d) (ust S p (.lst (bagD c' r' n')))) : F_l_take [.ref p, .int m] S Q := ⟨p, m, c, r, n, N, rfl, hS, hb, hN, h0, h1, q⟩
theorem filt_comp {S : Own} {ρ : VS} {i j : Nat} {m : Int} {rows : List (List Int)} {Q : List D → Own → Prop} (hi : ∀ d, nth (sat ρ i d) i = some d) (hj : ∀ d, nth (sat ρ i d) j = some (.int m)) (q : Q ((rows.filter fun r => decide ((r.length : Int) ≤ m)).map tupI) S) :
    compV (.name i) (tvTest (tvOp rvLe (tvCB rvLen (tvCons (tvVar i) tvNil)) (tvVar j))) (tvVar i) ρ (rows.map tupI) S Q := by
  refine comp_filter (fun d => match d with | .tup xs => decide ((xs.length : Int) ≤ m) | _ => false) id _ _ (fun d hd => ?_) ?_
  · obtain ⟨x, _, rfl⟩ := List.mem_map.mp hd
    refine ⟨_, bind_name, fun Q' q' => ?_, fun _ Q' q' => ?_⟩
    · simp only [q_test, q_op, q_CB, q_cons, q_nil]
      unfold tvVar
      rw [hi]
      simp only [q_lenI, hj, rvLe, q_I0, q_kB]
      have : decide (((x.map D.int).length : Int) ≤ m) = decide ((x.length : Int) ≤ m) := by rw [List.length_map]
      rw [← this]
      exact q'
    · unfold tvVar
      rw [hi]; exact q'
  · rw [List.filter_map]
    have e : (rows.filter ((fun d => match d with | D.tup xs => decide ((xs.length : Int) ≤ m) | _ => false) ∘ tupI)) = rows.filter fun r => decide ((r.length : Int) ≤ m) := by
      congr 1
      funext r
      show decide (((r.map D.int).length : Int) ≤ m) = _
      rw [List.length_map]
    rw [e, List.map_id]
    exact q
theorem t_l_unbroken : ∀ ds S Qv, F_l_unbroken ds S Qv → T_l_unbroken (endsV Qv) (stD 9 ds) S := by
  rintro ds S Qv ⟨p, c, r, k, N, m, rfl, hm4, hm, hS, hb, hN, q⟩
  unfold T_l_unbroken
  walk_at "vs"
  refine q_takeI hS hb (by omega) (by omega) (by omega) fun c1 r1 k1 d1 hb1 d0 d1' => ?_
  simp only [q_addI]
  obtain ⟨j, rfl⟩ := Int.eq_ofNat_of_zero_le d0
  refine ⟨p, c1, r1, k1, N + 1, 4 + j, (by rw [show ((4 + j : Nat) : Int) = 4 + (j : Int) by omega]), ust_same, hb1, by omega, by omega, fun c2 r2 k2 l hb2 hl => ?_⟩
  rw [ust_ust]
  simp only [q_sat0, q_satS]
  have hll : l.length = 4 + j := by rw [hl.length_eq, upto_length]
  have hrow : Row l := by unfold Row; rw [hll]; exact hl
  refine ⟨l, rfl, by omega, ?_⟩
  simp only [q_kB]
  cases hbl : blocked l with
  | false =>
    rw [if_pos (by rfl)]
    exact fin_of (q _ _ _ _ (hb2.mono (by omega)) ⟨hrow, by omega, hbl⟩ (by omega))
  | true =>
    rw [if_neg (by decide)]
    refine ⟨sz, sz, sz, sz, sz, sz, sz, sz, sz, sz, sz, sz, sz, sz, sz, sz, sz, ?_⟩
    refine filt_comp (rows := fifteen) (i := 4) (j := 1) (m := m) (fun _ => rfl) (fun _ => rfl) ?_
    have hne : 0 < (fifteen.filter fun r => decide ((r.length : Int) ≤ m)).length := by
      refine List.length_pos_of_mem (a := [2, 4, 1, 3]) (List.mem_filter.mpr ⟨by simp [fifteen], ?_⟩)
      exact decide_eq_true (show ((4 : Nat) : Int) ≤ m by omega)
    have hlen : (fifteen.filter fun r => decide ((r.length : Int) ≤ m)).length ≤ 15 := List.length_filter_le _ _
    have hok : ∀ x ∈ fifteen.filter fun r => decide ((r.length : Int) ≤ m), Unb x ∧ x.length ≤ m := fun x hx => by
      obtain ⟨h1, h2⟩ := List.mem_filter.mp hx
      have := of_decide_eq_true h2
      exact ⟨fifteen_ok x h1, by omega⟩
    generalize (fifteen.filter fun r => decide ((r.length : Int) ≤ m)) = rows at hne hlen hok
    simp only [q_lenL, List.length_map]
    refine q_takeI ust_same hb2 (by omega) (by omega) (by omega) fun c3 r3 k3 d3 hb3 d30 d31 => ?_
    rw [ust_ust]
    obtain ⟨e, he, hi⟩ := ix_mem (xs := rows.map tupI) d30 (by rw [List.length_map]; exact d31)
    obtain ⟨x, hx, rfl⟩ := List.mem_map.mp he
    obtain ⟨hu, hxl⟩ := hok x hx
    simp only [q_ixL hi, q_lenI, q_addI]
    refine q_takeI ust_same hb3 (by omega) (by omega) (by omega) fun c4 r4 k4 d4 hb4 d40 d41 => ?_
    rw [ust_ust]
    refine q_takeI ust_same hb4 (by omega) (by omega) (by omega) fun c5 r5 k5 d5 hb5 d50 d51 => ?_
    rw [ust_ust]
    refine ⟨sz, ?_⟩
    rw [q_kbind (by rfl)]
    simp only [sat]
    walk_at "vs"
    simp only [tupI, q_kSqT]
    refine ⟨by rw [List.length_map]; exact sz, lift_comp (i := 4) (j := 6) (fun _ => rfl) (fun _ => rfl) ?_⟩
    have l1 : ∀ lo hi, (cutD ((x.map (lift1 (1 + d5))).map D.int) lo hi).length ≤ 40 := fun lo hi => by
      refine Nat.le_trans cut_len ?_
      rw [List.length_map, List.length_map]; omega
    have a1 := l1 none (some d4)
    have a2 := l1 (some d4) none
    refine ⟨sz, sz, sz (by rw [List.length_append]; simp only [List.length_cons, List.length_nil]; omega), ?_⟩
    simp only [cut_put d40, List.length_map]
    have hpl := putIn_length (ns := x) (p := d4.toNat) (v := 1 + d5) (by omega)
    have hpr := putIn_row (p := d4.toNat) (v := 1 + d5) hu.row (by omega) (by omega) (by omega)
    have old : fin Qv (.tup (x.map D.int)) (ust S p (.lst (bagD c5 r5 k5))) := fin_of (q _ _ _ _ (hb5.mono (by omega)) hu hxl)
    rw [hpl]
    split
    · rename_i hle
      have hle := of_decide_eq_true hle
      refine ⟨_, rfl, by rw [hpl]; omega, ?_⟩
      simp only [q_kB]
      cases hb6 : blocked (putIn x d4.toNat (1 + d5)) with
      | false =>
        rw [if_pos (by rfl)]
        exact fin_of (q _ _ _ _ (hb5.mono (by omega)) ⟨hpr, by rw [hpl]; have := hu.len; omega, hb6⟩ (by rw [hpl]; omega))
      | true => rw [if_neg (by decide)]; exact old
    · exact old
def F_l_greater : FS := fun ds S Q => ∃ p c r k N ns, ds = [.ref p, tupI ns] ∧ Unb ns ∧ ns.length ≤ 40 ∧ S p = some (.lst (bagD c r k)) ∧ BagOk c r k N ∧ N + 50 ≤ 2 ^ 40 ∧
  ∀ c' r' k' ms, BagOk c' r' k' (N + 50) → Unb ms → ns.length ≤ ms.length → ms.length ≤ ns.length + 9 → Q (tupI ms) (ust S p (.lst (bagD c' r' k')))
def T_l_greater : TSv := (tvSeq (tvFor (tvRng1 (tvCons (tvCall F_l_take (tvCons (tvVar 0) (tvCons (tvC (.int 10)) tvNil))) tvNil)) (.name 2)
  (tvSeq (tvBind (.tup [(.name 3), (.name 4)]) (tvTup (tvCons (tvCall F_l_take (tvCons (tvVar 0) (tvCons (tvOp rvAdd (tvCB rvLen (tvCons (tvVar 1) tvNil)) (tvC (.int 1))) tvNil))) (tvCons (tvOp rvAdd (tvC (.int 1)) (tvCall F_l_take (tvCons (tvVar 0) (tvCons (tvOp rvAdd (tvCB rvLen (tvCons (tvVar 1) tvNil)) (tvC (.int 1))) tvNil)))) tvNil))))
  (tvSeq (tvSet 5 (tvLc (tvSq (tvVar 1)) (.name 6) ttYes (tvOp rvAdd (tvVar 6) (tvCB (rvInt1 (fun i => .int i) fun k => .int (if k then 1 else 0)) (tvCons (tvOp rvGe (tvVar 6) (tvVar 4)) tvNil))) [6]))
  (tvSeq (tvSet 7 (tvCB rvTuple (tvCons (tvOp rvAdd (tvOp rvAdd (tvSl rvSl (tvVar 5) tvNoPart (tvPart (tvVar 3))) (tvLst (tvCons (tvVar 4) tvNil))) (tvSl rvSl (tvVar 5) (tvPart (tvVar 3)) tvNoPart)) tvNil)))
  (tvSet 1 (tvIfE (tvTest (tvCall F_l_blocked (tvCons (tvVar 7) tvNil))) (tvVar 1) (tvVar 7)))))))
  (tvRet (tvVar 1)))

theorem t_l_greater : ∀ ds S Qv, F_l_greater ds S Qv → T_l_greater (endsV Qv) (stD 8 ds) S := by
  rintro ds S Qv ⟨p, c, r, k, N, ns, rfl, hu, hl, hS, hb, hN, q⟩
  unfold T_l_greater
  walk_at "vs"
  refine q_takeI hS hb (by omega) (by omega) (by omega) fun c1 r1 k1 d1 hb1 d0 d1' => ?_
  simp only [q_kR1]
  refine ⟨by omega, ?_⟩
  refine for_inv (fun i ρ S' => ∃ x2 x3 x4 x5 x6 x7 ms c2 r2 k2, ρ = [some (.ref p), some (tupI ms), x2, x3, x4, x5, x6, x7] ∧ S' = ust S p (.lst (bagD c2 r2 k2)) ∧ Unb ms ∧ ns.length ≤ ms.length ∧ ms.length ≤ ns.length + i ∧ BagOk c2 r2 k2 (N + 1 + 2 * i))
    (fun i d ρ S' hd hi => ?_) ⟨none, none, none, none, none, none, ns, c1, r1, k1, rfl, rfl, hu, Nat.le_refl _, Nat.le_refl _, hb1.mono (by simp)⟩ fun ρ S' hi => ?_
  · obtain ⟨x2, x3, x4, x5, x6, x7, ms, c2, r2, k2, rfl, rfl, hum, hl1, hl2, hb2⟩ := hi
    have hi9 : i < 9 := by
      have := (List.getElem?_eq_some_iff.mp hd).1
      rw [rngD_length] at this
      omega
    refine ⟨_, rfl, fun k hk => ?_⟩
    simp only [sat]
    walk_at "vs"
    simp only [q_lenI, q_addI]
    refine q_takeI ust_same hb2 (by omega) (by omega) (by omega) fun c4 r4 k4 d4 hb4 d40 d41 => ?_
    rw [ust_ust]
    refine q_takeI ust_same hb4 (by omega) (by omega) (by omega) fun c5 r5 k5 d5 hb5 d50 d51 => ?_
    rw [ust_ust]
    refine ⟨sz, ?_⟩
    rw [q_kbind (by rfl)]
    simp only [sat]
    walk_at "vs"
    simp only [tupI, q_kSqT]
    refine ⟨by rw [List.length_map]; exact sz, lift_comp (i := 6) (j := 4) (fun _ => rfl) (fun _ => rfl) ?_⟩
    have l1 : ∀ lo hi, (cutD ((ms.map (lift1 (1 + d5))).map D.int) lo hi).length ≤ 60 := fun lo hi => by
      refine Nat.le_trans cut_len ?_
      rw [List.length_map, List.length_map]; omega
    have a1 := l1 none (some d4)
    have a2 := l1 (some d4) none
    refine ⟨sz, sz, sz (by rw [List.length_append]; simp only [List.length_cons, List.length_nil]; omega), ?_⟩
    simp only [cut_put d40]
    have hpl := putIn_length (ns := ms) (p := d4.toNat) (v := 1 + d5) (by omega)
    have hpr := putIn_row (p := d4.toNat) (v := 1 + d5) hum.row (by omega) (by omega) (by omega)
    refine ⟨_, rfl, by rw [hpl]; omega, ?_⟩
    simp only [q_kB]
    cases hb6 : blocked (putIn ms d4.toNat (1 + d5)) with
    | true =>
      rw [if_pos rfl]
      exact hk _ _ ⟨_, _, _, _, _, _, ms, _, _, _, rfl, rfl, hum, hl1, by omega, hb5.mono (by omega)⟩
    | false =>
      rw [if_neg (by decide)]
      exact hk _ _ ⟨_, _, _, _, _, _, putIn ms d4.toNat (1 + d5), _, _, _, rfl, rfl, ⟨hpr, by rw [hpl]; have := hum.len; omega, hb6⟩, by omega, by omega, hb5.mono (by omega)⟩
  · obtain ⟨x2, x3, x4, x5, x6, x7, ms, c2, r2, k2, rfl, rfl, hum, hl1, hl2, hb2⟩ := hi
    rw [rngD_length] at hl2 hb2
    walk_at "vs"
    exact fin_of (q _ _ _ _ (hb2.mono (by omega)) hum hl1 (by omega))
def unbD (d : D) : Bool := isRowD d && match d with
  | .tup xs => match intsD xs with
    | some ns => decide (3 < ns.length) && !blocked ns
    | none => false
  | _ => false
def F_p_is_unbroken : FS := fun ds S Q => ∃ w n d, ds = [d] ∧ ThD w n d ∧ w ≤ 1000 ∧ n ≤ 100 ∧ Q (.bl (unbD d)) S
def T_p_is_unbroken : TSv := (tvRet (tvAndV (tvCall F_p_is_row (tvCons (tvVar 0) tvNil)) (tvAndV (tvOp rvGt (tvCB rvLen (tvCons (tvVar 0) tvNil)) (tvC (.int 3))) (tvOp rvEq (tvCall F_p_whole_stretches (tvCons (tvVar 0) tvNil)) (tvLst (tvCons (tvTup (tvCons (tvC (.int 0)) (tvCons (tvCB rvLen (tvCons (tvVar 0) tvNil)) tvNil))) tvNil))))))
theorem rowD_ints {d : D} (h : isRowD d = true) : ∃ ns, d = tupI ns ∧ Row ns ∧ 1 ≤ ns.length ∧ ns.length ≤ 40 := by
  unfold isRowD at h
  cases d <;> try (cases h)
  rename_i xs
  dsimp only at h
  cases e : intsD xs with
  | none => rw [e] at h; cases h
  | some ns =>
    rw [e] at h
    have := isRowI_iff.mp h
    exact ⟨ns, by rw [intsD_of e]; rfl, this.2.2, this.1, this.2.1⟩
theorem unbD_no {d : D} (h : isRowD d = false) : unbD d = false := by unfold unbD; rw [h]; rfl
theorem unbD_row {ns : List Int} (h : isRowD (tupI ns) = true) : unbD (tupI ns) = (decide (3 < ns.length) && !blocked ns) := by
  unfold unbD
  rw [h]
  simp only [tupI, intsD_map, Bool.true_and]
theorem toP_pairs : ∀ l : List (Nat × Nat), toPs (l.map fun be => D.tup [.int (be.1 : Nat), .int (be.2 : Nat)]) = some (l.map fun be => PyData.tuple [.int (be.1 : Nat), .int (be.2 : Nat)])
  | [] => rfl
  | x :: l => by simp only [List.map_cons, toPs, toP, toP_pairs l]
theorem eqv_pairs : ∀ l m : List (Nat × Nat), PyData.eqvAll (l.map fun be => PyData.tuple [.int (be.1 : Nat), .int (be.2 : Nat)]) (m.map fun be => PyData.tuple [.int (be.1 : Nat), .int (be.2 : Nat)]) = decide (l = m)
  | [], [] => rfl
  | [], _ :: _ => rfl
  | _ :: _, [] => rfl
  | x :: l, y :: m => by
    simp only [List.map_cons, PyData.eqvAll, PyData.eqv, eqv_pairs l m]
    obtain ⟨a, b⟩ := x
    obtain ⟨c, d⟩ := y
    by_cases h1 : a = c
    · by_cases h2 : b = d
      · subst h1; subst h2; simp
      · have : ((b : Int) == (d : Int)) = false := beq_eq_false_iff_ne.mpr (by omega)
        simp [this, h2]
    · have : ((a : Int) == (c : Int)) = false := beq_eq_false_iff_ne.mpr (by omega)
      simp [this, h1]
theorem depth_pairs : ∀ l : List (Nat × Nat), PyData.depthAll (l.map fun be => PyData.tuple [.int (be.1 : Nat), .int (be.2 : Nat)]) ≤ 1
  | [] => Nat.zero_le _
  | x :: l => by
    have := depth_pairs l
    simp only [List.map_cons, PyData.depthAll, PyData.depth] at *
    omega
/-- lists of pairs are compared -/
theorem q_eqP {S : Own} {Q : KE} {g : Bool → Bool} {l m : List (Nat × Nat)} : rvEqv g (.lst (l.map fun be => .tup [.int (be.1 : Nat), .int (be.2 : Nat)])) (.lst (m.map fun be => .tup [.int (be.1 : Nat), .int (be.2 : Nat)])) S Q = Q (.bl (g (decide (l = m)))) S := by
  have e : ∀ l : List (Nat × Nat), toP (vw S (.lst (l.map fun be => .tup [.int (be.1 : Nat), .int (be.2 : Nat)]))) = some (.list (l.map fun be => PyData.tuple [.int (be.1 : Nat), .int (be.2 : Nat)])) := fun l => by simp only [vw, toP, toP_pairs]
  rw [q_eqv (e l) (e m)]
  have := depth_pairs l
  simp only [PyData.depth, PyData.eqv, eqv_pairs]
  have h2 : 1 + PyData.depthAll (l.map fun be => PyData.tuple [.int (be.1 : Nat), .int (be.2 : Nat)]) ≤ 190 := by omega
  simp only [eq_iff_iff, and_iff_right_iff_imp]
  intro _
  omega
theorem t_p_is_unbroken : ∀ ds S Qv, F_p_is_unbroken ds S Qv → T_p_is_unbroken (endsV Qv) (stD 1 ds) S := by
  rintro ds S Qv ⟨w, n, d, rfl, hd, hw, hn, q⟩
  unfold T_p_is_unbroken
  walk_at "vs"
  refine ⟨w, n, d, rfl, hd, hw, hn, ?_⟩
  simp only [q_kB]
  cases hr : isRowD d with
  | false => rw [unbD_no hr] at q; exact fin_of q
  | true =>
    obtain ⟨ns, rfl, hrow, h1, h40⟩ := rowD_ints hr
    rw [unbD_row hr] at q
    simp only [if_true, q_lenI, rvGt, q_I0, q_kB]
    by_cases h3 : 3 < ns.length
    · rw [if_pos (decide_eq_true (by omega))]
      refine ⟨ns, rfl, by omega, sz, sz, ?_⟩
      have e1 : D.lst [D.tup [.int 0, .int ns.length]] = .lst (([((0 : Nat), ns.length)] : List (Nat × Nat)).map fun be => .tup [.int (be.1 : Nat), .int (be.2 : Nat)]) := rfl
      rw [e1]
      simp only [rvEq, q_eqP]
      rw [decide_eq_true h3] at q
      have e2 : decide (strL ns = [(0, ns.length)]) = !blocked ns := by
        rw [Bool.eq_iff_iff, decide_eq_true_eq, str_unblocked hrow (by omega), Bool.not_eq_true']
      rw [e2]
      exact fin_of q
    · rw [if_neg (by rw [decide_eq_true_eq]; omega)]
      rw [decide_eq_false h3] at q
      exact fin_of q
end VL
namespace VL
open PySem PySem.Spec PyProof.Rows L2
def keyD : D → Option Key
  | .int i => some (.inl i)
  | .str x => some (.inr x)
  | _ => none
def valD (kvs : List (Key × D)) (k : Key) : Option D := (kvs.find? fun kv => decide (kv.1 = k)).map (·.2)
def tvPairs : List (TEv × TEv) → VS → Own → (List (Key × D) → Own → Prop) → Prop
  | [], _, S, Q => Q [] S
  | (Tk, Tv) :: r, ρ, S, Q => Tk ρ S fun k S1 => Tv ρ S1 fun v S2 => ∃ key, keyD k = some key ∧ tvPairs r ρ S2 fun kvs S3 => Q ((key, v) :: kvs) S3
def tvDisp (prs : List (TEv × TEv)) : TEv := fun ρ S Q => ∀ p, S p = none → tvPairs prs ρ (ust S p (.dK [])) fun kvs S2 => S2 p = some (.dK []) ∧ kvs.length ≤ 15 ∧ (kvs.map (·.1)).Nodup ∧ Q (.ref p) (ust S2 p (.dK kvs))
def rvDix : R2v := fun x y S Q => ∃ p kvs k v, x = .ref p ∧ S p = some (.dK kvs) ∧ keyD y = some k ∧ valD kvs k = some v ∧ Q v S
def upP (K : PySem.W.Frag) (p : TEv × TEv) : TE × TE := (upE K p.1, upE K p.2)
section
variable {K : PySem.W.Frag} {H : Hp} {S : Own} {Z : Addr → Prop}
theorem rp_key {d : D} {v : V} {k : Key} (r : Rp K H S Z d v) (h : keyD d = some k) : v = kV k := by
  cases d <;> simp only [keyD] at h <;> cases h <;> simp only [Rp] at r <;> exact r
theorem rp_val : ∀ {kvs : List (Key × D)} {kws : List (Key × V)} {k : Key}, kvs.map (·.1) = kws.map (·.1) → Rps K H S Z (kvs.map (·.2)) (kws.map (·.2)) →
    (∀ d, valD kvs k = some d → ∃ v, valV kws k = some v ∧ Rp K H S Z d v) ∧ (valD kvs k = none → valV kws k = none)
  | [], kws, k, e, r => by
    cases kws with
    | nil => exact ⟨(fun d h => by cases h), fun _ => rfl⟩
    | cons _ _ => simp at e
  | kv :: kvs, kws, k, e, r => by
    cases kws with
    | nil => simp at e
    | cons kw kws =>
      simp only [List.map_cons, List.cons.injEq] at e
      simp only [List.map_cons, Rps] at r
      obtain ⟨v, r', e2, h1, h2⟩ := r
      cases e2
      obtain ⟨i1, i2⟩ := rp_val (k := k) e.2 h2
      by_cases hk : kv.1 = k
      · have hk2 : kw.1 = k := e.1 ▸ hk
        have a : valD (kv :: kvs) k = some kv.2 := by simp [valD, List.find?_cons, hk]
        rw [a, valV_pos hk2]
        exact ⟨(fun d h => by cases h; exact ⟨_, rfl, h1⟩), (fun h => by cases h)⟩
      · have hk2 : ¬ kw.1 = k := fun z => hk (e.1.trans z)
        have a : valD (kv :: kvs) k = valD kvs k := by simp [valD, List.find?_cons, hk]
        rw [a, valV_neg hk2]
        exact ⟨i1, i2⟩
theorem mergeK_nodup : ∀ (more kvs : List (Key × V)), ((kvs ++ more).map (·.1)).Nodup → mergeK kvs more = kvs ++ more
  | [], kvs, _ => by simp [mergeK]
  | p :: r, kvs, h => by
    have h1 : putK kvs p.1 p.2 = kvs ++ [p] := by
      unfold putK
      rw [if_neg]
      intro hq
      obtain ⟨q, hq1, hq2⟩ := List.any_eq_true.mp hq
      have hq2 := of_decide_eq_true hq2
      rw [List.map_append, List.map_cons] at h
      have := (List.nodup_append.mp h).2.2 q.1 (List.mem_map.mpr ⟨q, hq1, rfl⟩) p.1 (by simp)
      exact this hq2
    show mergeK (putK kvs p.1 p.2) r = _
    rw [h1, mergeK_nodup r (kvs ++ [p]) (by simpa using h)]
    simp
theorem pairs_up {ρ : VS} {σ : L2.St} : ∀ (prs : List (TEv × TEv)) (H : Hp) (S : Own) (Qv : List (Key × D) → Own → Prop) (Q : List (V × V) → Hp → Prop), Sim K H S Z → RpL K H S Z ρ σ → tvPairs prs ρ S Qv →
    (∀ (kvs : List (Key × D)) (kws : List (Key × V)) H' S', Ext H S H' S' → Sim K H' S' Z → kvs.map (·.1) = kws.map (·.1) → Rps K H' S' Z (kvs.map (·.2)) (kws.map (·.2)) → Qv kvs S' → Q (kws.map fun kv => (kV kv.1, kv.2)) H') → tPairs (prs.map (upP K)) σ H Q
  | [], H, S, Qv, Q, m, r, h, b => b [] [] H S .refl m rfl rps_nil h
  | (Tk, Tv) :: prs, H, S, Qv, Q, m, r, h, b => by
    refine ⟨Z, ρ, S, _, m, r, h, fun d v H1 S1 e1 m1 r1 h1 => ⟨Z, ρ, S1, _, m1, r.ext e1, h1, fun d2 v2 H2 S2 e2 m2 r2 h2 => ?_⟩⟩
    obtain ⟨key, hk, h3⟩ := h2
    have ev := rp_key r1 hk
    subst ev
    refine pairs_up prs H2 S2 _ _ m2 ((r.ext e1).ext e2) h3 fun kvs kws H' S' e3 m3 a1 a2 q => ?_
    exact b ((key, d2) :: kvs) ((key, v2) :: kws) H' S' ((e1.trans e2).trans e3) m3 (by simp only [List.map_cons, a1]) (rps_cons (r2.ext e3) a2) q
end
section
variable {X : Cx}
theorem ppv_nil {pos : Pos} : PPs X pos [] [] (([] : List (TEv × TEv)).map (upP X.K)) := pps_nil
theorem ppv_cons {pos : Pos} {k v : Expr} {ks : List (Option Expr)} {vs : List Expr} {Tk Tv : TEv} {prs : List (TEv × TEv)} (hk : PE X k (upE X.K Tk)) (hv : PE X v (upE X.K Tv)) (hr : PPs X pos ks vs (prs.map (upP X.K))) :
    PPs X pos (some k :: ks) (v :: vs) (((Tk, Tv) :: prs).map (upP X.K)) := pps_cons hk hv hr
theorem v_disp {pos : Pos} {keys : List (Option Expr)} {values : List Expr} {prs : List (TEv × TEv)} (h : PPs X pos keys values (prs.map (upP X.K))) (hall : keys.all (·.isSome) = true := by rfl) (hl : keys.length = values.length := by rfl) (h0 : keys ≠ [] := by exact fun z => by cases z)
    (h15 : keys.length ≤ 15 := by decide) : PE X (.Dict keys values pos) (upE X.K (tvDisp prs)) :=
  pe_imp (pe_disp h hall hl h0 h15) fun σ H Q ⟨Z, ρ, S, Qv, m, r, h, b⟩ p hp => by
    have e0 : Ext H S (upd H p (.dK [])) (ust S p (.dK [])) := ext_own m hp
    have m0 : Sim X.K (upd H p (.dK [])) (ust S p (.dK [])) Z := sim_own m hp (by simp only [RpO]; exact ⟨rfl, rps_nil⟩)
    refine pairs_up prs _ _ _ _ m0 (r.ext e0) (h p (m.free hp)) fun kvs kws H' S' e1 m1 a1 a2 ⟨q1, q2, q3, q4⟩ => ?_
    obtain ⟨z, ho, h1, h2⟩ := m1.own p _ q1
    cases ho <;> simp only [RpO] at h2
    rename_i kws0
    have e3 : kws0 = [] := by
      have := h2.1
      cases kws0 with
      | nil => rfl
      | cons _ _ => simp at this
    subst e3
    refine ⟨h1, kws, rfl, ?_, ?_⟩
    · have := congrArg List.length a1
      simp only [List.length_map] at this
      omega
    · rw [mergeK_nodup kws [] (by rw [List.nil_append, ← a1]; exact q3), List.nil_append]
      have ex : Ext H' S' (upd H' p (.dK kws)) (ust S' p (.dK kvs)) := ext_set m1 q1
      exact b (.ref p) _ _ _ ((e0.trans e1).trans ex) (sim_set m1 q1 (by simp only [RpO]; exact ⟨a1, a2.ext ex⟩)) (by simp only [Rp]) q4
theorem own_dK {K : PySem.W.Frag} {H : Hp} {S : Own} {Z : Addr → Prop} (m : Sim K H S Z) {p : Addr} {kvs : List (Key × D)} (h : S p = some (.dK kvs)) : ∃ kws, H p = some (.dK kws) ∧ kvs.map (·.1) = kws.map (·.1) ∧ Rps K H S Z (kvs.map (·.2)) (kws.map (·.2)) := by
  obtain ⟨z, ho, h1, h2⟩ := m.own p _ h
  cases ho <;> simp only [RpO] at h2
  exact ⟨_, h1, h2.1, h2.2⟩
theorem v_dix {o i : Expr} {To Ti : TEv} {pos : Pos} (hu : X.A.units + 200 < cLine) (ho : PE X o (upE X.K To)) (hi : PE X i (upE X.K Ti)) (hs : NoSl i := by exact fun _ _ => rfl) : PE X (.Subscript o i pos) (upE X.K (tvOp rvDix To Ti)) :=
  pe_imp (pe_dget (by omega) ho hi hs) fun σ H Q ⟨Z, ρ, S, Qv, m, r, h, b⟩ => ⟨Z, ρ, S, _, m, r, h, fun d v H1 S1 e1 m1 r1 h1 => ⟨Z, ρ, S1, _, m1, r.ext e1, h1, fun d2 v2 H2 S2 e2 m2 r2 ⟨p, kvs, k, dv, ep, hp, hk, hv, h2⟩ => by
    subst ep
    simp only [Rp] at r1
    obtain ⟨kws, h3, a1, a2⟩ := own_dK m2 hp
    obtain ⟨w, hw, rw'⟩ := (rp_val (k := k) a1 a2).1 _ hv
    have ev := rp_key r2 hk
    exact ⟨p, w, r1, by rw [ev, ← hw]; exact DGet.k h3, b _ _ H2 S2 (e1.trans e2) m2 rw' h2⟩⟩⟩
end
end VL
namespace VL
open PySem PySem.Spec PyProof.Rows L2
abbrev TIw := VS → Own → (List D → (Own → Prop) → Own → Prop) → Prop
def forW (t : Tg) (Tb : TSv) (Dv : EndsV) (W : Own → Prop) : List D → VS → Own → Prop
  | [], ρ, S => W S ∧ Dv.nx ρ S
  | d :: ds, ρ, S => W S ∧ match bindV t d ρ with
    | some ρ2 => Tb { nx := forW t Tb Dv W ds, ct := forW t Tb Dv W ds, bk := Dv.nx, rt := Dv.rt } ρ2 S
    | none => False
def tvForW (Ti : TIw) (t : Tg) (Tb : TSv) : TSv := fun Dv ρ S => Ti ρ S fun ds W S1 => forW t Tb Dv W ds ρ S1
def compW (t : Tg) (Tt : TTv) (Te : TEv) (ρw : VS) (W : Own → Prop) : List D → Own → (List D → Own → Prop) → Prop
  | [], S, Q => W S ∧ Q [] S
  | d :: ds, S, Q => W S ∧ match bindV t d ρw with
    | some ρ2 => Tt ρ2 S fun b S3 => if b = true then Te ρ2 S3 fun y S4 => compW t Tt Te ρw W ds S4 fun ys S5 => Q (y :: ys) S5 else compW t Tt Te ρw W ds S3 Q
    | none => False
def tvLcW (Ti : TIw) (t : Tg) (Tt : TTv) (Te : TEv) (vs : List Nat) : TEv := fun ρ S Q => Ti ρ S fun ds W S1 => ds.length ≤ sizeLine ∧ compW t Tt Te (wip ρ vs) W ds S1 fun ys S2 => Q (.lst ys) S2
def tvOw (T : TEv) : TIw := fun ρ S Q => T ρ S fun d S1 => ∃ p xs, d = .ref p ∧ S1 p = some (.lst xs) ∧ Q xs (fun S => S p = some (.lst xs)) S1
section
variable {K : PySem.W.Frag}
end
section
variable {X : Cx}
end
theorem q_ow {T : TEv} {ρ : VS} {S : Own} {Q : List D → (Own → Prop) → Own → Prop} : tvOw T ρ S Q = T ρ S (fun d S1 => ∃ p xs, d = .ref p ∧ S1 p = some (.lst xs) ∧ Q xs (fun S => S p = some (.lst xs)) S1) := rfl
theorem q_lcW {Ti : TIw} {t : Tg} {Tt : TTv} {Te : TEv} {vs : List Nat} {ρ : VS} {S : Own} {Q : KE} : tvLcW Ti t Tt Te vs ρ S Q = Ti ρ S (fun ds W S1 => ds.length ≤ sizeLine ∧ compW t Tt Te (wip ρ vs) W ds S1 fun ys S2 => Q (.lst ys) S2) := rfl
theorem q_forW {Ti : TIw} {t : Tg} {Tb : TSv} {Dv : EndsV} {ρ : VS} {S : Own} : tvForW Ti t Tb Dv ρ S = Ti ρ S (fun ds W S1 => forW t Tb Dv W ds ρ S1) := rfl
end VL
namespace VL
open PySem PySem.Spec PyProof.Rows L2
inductive Tr where
  | one | run (up : Bool) (ps : List Tr) | shp (sh : List Int) (ps : List Tr)
def wordOf (up : Bool) : Str := if up = true then "rise" else "fall"
mutual
def treeD : Tr → D
  | .one => .tup [.str "one"]
  | .run up ps => .tup [.str (wordOf up), .tup (treeDs ps)]
  | .shp sh ps => .tup [.str "shape", tupI sh, .tup (treeDs ps)]
def treeDs : List Tr → List D
  | [] => []
  | t :: ts => treeD t :: treeDs ts
end
mutual
def sizeT : Tr → Nat
  | .one => 1
  | .run _ ps => sizeTs ps
  | .shp _ ps => sizeTs ps
def sizeTs : List Tr → Nat
  | [] => 0
  | t :: ts => sizeT t + sizeTs ts
end
/-- the kind of a tree's head, as a run -/
def headT : Tr → Option Bool
  | .run up _ => some up
  | _ => none
mutual
def WfT : Tr → Prop
  | .one => True
  | .run up ps => 2 ≤ ps.length ∧ (∀ p ∈ ps, headT p ≠ some up) ∧ WfTs ps
  | .shp sh ps => Unb sh ∧ sh.length ≤ 40 ∧ sh.length = ps.length ∧ WfTs ps
def WfTs : List Tr → Prop
  | [] => True
  | t :: ts => WfT t ∧ WfTs ts
end
def runSh (up : Bool) (m : Nat) : List Int := if up = true then (List.range m).map fun i : Nat => (i : Int) else (List.range m).map fun i : Nat => (m : Int) - i
def liftOf (sh : List Int) (rows : List (List Int)) (k : Nat) : Int := (((List.range rows.length).filter fun j => decide (sh.getD j 0 < sh.getD k 0)).map fun j => ((rows.getD j []).length : Int)).sum
def glue (sh : List Int) (rows : List (List Int)) : List Int := (List.range rows.length).flatMap fun k => (rows.getD k []).map (· + liftOf sh rows k)
mutual
def orderT : Tr → List Int
  | .one => [1]
  | .run up ps => glue (runSh up ps.length) (orderTs ps)
  | .shp sh ps => glue sh (orderTs ps)
def orderTs : List Tr → List (List Int)
  | [] => []
  | t :: ts => orderT t :: orderTs ts
end
theorem treeDs_map : ∀ ps : List Tr, treeDs ps = ps.map treeD
  | [] => by simp only [treeDs, List.map_nil]
  | t :: ts => by simp only [treeDs, List.map_cons, treeDs_map ts]
theorem orderTs_map : ∀ ps : List Tr, orderTs ps = ps.map orderT
  | [] => by simp only [orderTs, List.map_nil]
  | t :: ts => by simp only [orderTs, List.map_cons, orderTs_map ts]
theorem orderTs_length (ps : List Tr) : (orderTs ps).length = ps.length := by rw [orderTs_map, List.length_map]
theorem wfTs_mem : ∀ {ps : List Tr}, WfTs ps → ∀ p ∈ ps, WfT p
  | [], _, p, hp => absurd hp List.not_mem_nil
  | t :: ts, h, p, hp => by
    simp only [WfTs] at h
    rcases List.mem_cons.mp hp with rfl | hp
    · exact h.1
    · exact wfTs_mem h.2 p hp
theorem wfTs_of : ∀ {ps : List Tr}, (∀ p ∈ ps, WfT p) → WfTs ps
  | [], _ => by simp only [WfTs]
  | t :: ts, h => by
    simp only [WfTs]
    exact ⟨h t (by simp), wfTs_of fun p hp => h p (by simp [hp])⟩
theorem sizeTs_mem : ∀ {ps : List Tr}, ∀ p ∈ ps, sizeT p ≤ sizeTs ps
  | t :: ts, p, hp => by
    simp only [sizeTs]
    rcases List.mem_cons.mp hp with rfl | hp
    · omega
    · have := sizeTs_mem p hp; omega
theorem sizeTs_sum : ∀ ps : List Tr, sizeTs ps = (ps.map sizeT).sum
  | [] => by simp only [sizeTs, List.map_nil, List.sum_nil]
  | t :: ts => by simp only [sizeTs, List.map_cons, List.sum_cons, sizeTs_sum ts]
mutual
theorem sizeT_pos : ∀ t : Tr, WfT t → 1 ≤ sizeT t
  | .one, _ => by simp only [sizeT]; omega
  | .run up ps, h => by
    simp only [WfT] at h
    simp only [sizeT]
    have := sizeTs_ge ps h.2.2
    omega
  | .shp sh ps, h => by
    simp only [WfT] at h
    simp only [sizeT]
    have := sizeTs_ge ps h.2.2.2
    have := h.1.len
    omega
theorem sizeTs_ge : ∀ ps : List Tr, WfTs ps → ps.length ≤ sizeTs ps
  | [], _ => by simp only [sizeTs, List.length_nil]; omega
  | t :: ts, h => by
    simp only [WfTs] at h
    simp only [sizeTs, List.length_cons]
    have := sizeT_pos t h.1
    have := sizeTs_ge ts h.2
    omega
end
theorem size_kid {ps : List Tr} (h : WfTs ps) (h2 : 2 ≤ ps.length) : ∀ p ∈ ps, sizeT p + 1 ≤ sizeTs ps := by
  intro p hp
  obtain ⟨a, b, rfl⟩ := List.append_of_mem hp
  have h1 := sizeTs_sum (a ++ p :: b)
  rw [List.map_append, List.map_cons, List.sum_append, List.sum_cons, ← sizeTs_sum, ← sizeTs_sum] at h1
  have ha := sizeTs_ge a (wfTs_of fun q hq => wfTs_mem h q (by simp [hq]))
  have hb := sizeTs_ge b (wfTs_of fun q hq => wfTs_mem h q (by simp [hq]))
  simp only [List.length_append, List.length_cons] at h2
  omega
theorem sumf_le {f : Nat → Int} {p q : Nat → Bool} (hf : ∀ i, 0 ≤ f i) (h : ∀ i, p i = true → q i = true) : ∀ l : List Nat, ((l.filter p).map f).sum ≤ ((l.filter q).map f).sum
  | [] => Int.le_refl _
  | a :: l => by
    have ih := sumf_le hf h l
    have := hf a
    simp only [List.filter_cons]
    cases hp : p a with
    | true => rw [h a hp]; simp only [if_true, List.map_cons, List.sum_cons]; omega
    | false =>
      cases hq : q a with
      | true => simp only [if_true, Bool.false_eq_true, if_false, List.map_cons, List.sum_cons]; omega
      | false => simpa using ih
theorem sumf_lt {f : Nat → Int} {p q : Nat → Bool} {j : Nat} (hf : ∀ i, 0 ≤ f i) (h : ∀ i, p i = true → q i = true) (hp : p j = false) (hq : q j = true) : ∀ l : List Nat, j ∈ l → ((l.filter p).map f).sum + f j ≤ ((l.filter q).map f).sum
  | a :: l, hj => by
    have := hf a
    simp only [List.filter_cons]
    rcases List.mem_cons.mp hj with rfl | hj
    · have ih := sumf_le hf h l
      rw [hp, hq]
      simp only [if_true, Bool.false_eq_true, if_false, List.map_cons, List.sum_cons]
      omega
    · have ih := sumf_lt hf h hp hq l hj
      cases hp2 : p a with
      | true => rw [h a hp2]; simp only [if_true, List.map_cons, List.sum_cons]; omega
      | false =>
        cases hq2 : q a with
        | true => simp only [if_true, Bool.false_eq_true, if_false, List.map_cons, List.sum_cons]; omega
        | false => simpa using ih
theorem sumf_pos {f : Nat → Int} {p : Nat → Bool} (hf : ∀ i, 0 ≤ f i) : ∀ l : List Nat, 0 ≤ ((l.filter p).map f).sum
  | [] => Int.le_refl _
  | a :: l => by
    have ih := sumf_pos (p := p) hf l
    have := hf a
    simp only [List.filter_cons]
    split
    · simp only [List.map_cons, List.sum_cons]; omega
    · exact ih
def totalL (rows : List (List Int)) : Nat := (rows.map List.length).sum
theorem range_sum : ∀ rows : List (List Int), ((List.range rows.length).map fun j => ((rows.getD j []).length : Int)).sum = (totalL rows : Int)
  | [] => rfl
  | r :: rows => by
    rw [List.length_cons, List.range_succ_eq_map, List.map_cons, List.map_map, List.sum_cons]
    have := range_sum rows
    have e : ((fun j => ((List.getD (r :: rows) j []).length : Int)) ∘ Nat.succ) = fun j => ((rows.getD j []).length : Int) := by
      funext j; rfl
    rw [e, this]
    unfold totalL
    simp
theorem flat_length {α β : Type} (f : α → List β) : ∀ l : List α, (l.flatMap f).length = (l.map fun a => (f a).length).sum
  | [] => rfl
  | a :: l => by rw [List.flatMap_cons, List.length_append, flat_length f l, List.map_cons, List.sum_cons]
theorem natsum_cast : ∀ l : List Nat, ((l.sum : Nat) : Int) = (l.map fun n : Nat => (n : Int)).sum
  | [] => rfl
  | n :: l => by rw [List.sum_cons, List.map_cons, List.sum_cons, ← natsum_cast l]; omega
theorem glue_length (sh : List Int) (rows : List (List Int)) : (glue sh rows).length = totalL rows := by
  unfold glue
  rw [flat_length]
  have h := range_sum rows
  have e : ((((List.range rows.length).map fun k => ((rows.getD k []).map (· + liftOf sh rows k)).length).sum : Nat) : Int) = (totalL rows : Int) := by
    rw [natsum_cast, List.map_map, ← h]
    congr 1
    apply List.map_congr_left
    intro k _
    simp only [Function.comp, List.length_map]
  omega
theorem getD_row {rows : List (List Int)} (h : ∀ r ∈ rows, Row r) {k : Nat} (hk : k < rows.length) : Row (rows.getD k []) := by
  rw [List.getD_eq_getElem?_getD, List.getElem?_eq_getElem hk]
  exact h _ (List.getElem_mem hk)
theorem sh_ne {sh : List Int} (hd : sh.Nodup) {j k : Nat} (hj : j < sh.length) (hk : k < sh.length) (h : j ≠ k) : sh.getD j 0 ≠ sh.getD k 0 := by
  rw [List.getD_eq_getElem?_getD, List.getElem?_eq_getElem hj, List.getD_eq_getElem?_getD, List.getElem?_eq_getElem hk]
  intro e
  simp only [Option.getD_some] at e
  have h1 := hd.idxOf_getElem j hj
  have h2 := hd.idxOf_getElem k hk
  rw [e, h2] at h1
  exact h h1.symm
theorem lift_step {sh : List Int} {rows : List (List Int)} {j k : Nat} (hj : j < rows.length) (h : sh.getD j 0 < sh.getD k 0) : liftOf sh rows j + (rows.getD j []).length ≤ liftOf sh rows k :=
  sumf_lt (f := fun j => ((rows.getD j []).length : Int)) (p := fun i => decide (sh.getD i 0 < sh.getD j 0)) (q := fun i => decide (sh.getD i 0 < sh.getD k 0)) (fun i => by omega)
    (fun i hi => decide_eq_true (Int.lt_trans (of_decide_eq_true hi) h)) (decide_eq_false (by omega)) (decide_eq_true h) _ (List.mem_range.mpr hj)
theorem lift_pos {sh : List Int} {rows : List (List Int)} {k : Nat} : 0 ≤ liftOf sh rows k := sumf_pos (f := fun j => ((rows.getD j []).length : Int)) (fun i => by omega) _
theorem lift_top {sh : List Int} {rows : List (List Int)} {k : Nat} (hk : k < rows.length) : liftOf sh rows k + (rows.getD k []).length ≤ totalL rows := by
  rw [← range_sum rows]
  have h := sumf_lt (f := fun j => ((rows.getD j []).length : Int)) (p := fun i => decide (sh.getD i 0 < sh.getD k 0)) (q := fun _ => true) (fun i => by omega) (fun i _ => rfl) (decide_eq_false (by omega)) rfl _ (List.mem_range.mpr hk)
  rw [List.filter_eq_self.mpr (fun _ _ => rfl)] at h
  exact h
theorem glue_row {sh : List Int} {rows : List (List Int)} (hr : ∀ r ∈ rows, Row r) (hd : sh.Nodup) (hl : sh.length = rows.length) : Row (glue sh rows) := by
  have hmem : ∀ k, k < rows.length → ∀ x ∈ (rows.getD k []).map (· + liftOf sh rows k), 1 + liftOf sh rows k ≤ x ∧ x ≤ (rows.getD k []).length + liftOf sh rows k := by
    intro k hk x hx
    obtain ⟨y, hy, rfl⟩ := List.mem_map.mp hx
    have := (getD_row hr hk).mem.mp hy
    omega
  unfold Row
  refine (perm_of_sub ?_ (fun x hx => ?_) (by rw [upto_length]; exact Nat.le_refl _)).symm
  · unfold glue
    rw [List.Nodup, List.pairwise_flatMap]
    refine ⟨fun k hk => ?_, ?_⟩
    · have hk := List.mem_range.mp hk
      exact ((getD_row hr hk).nodup).map (f := fun x => x + liftOf sh rows k) fun a b h e => h (by
        have e : a + liftOf sh rows k = b + liftOf sh rows k := e
        omega)
    · have hnd : (List.range rows.length).Pairwise (· ≠ ·) := List.nodup_range
      refine List.Pairwise.imp_of_mem ?_ hnd
      intro j k hj hk hne x hx y hy e
      have hj := List.mem_range.mp hj
      have hk := List.mem_range.mp hk
      have h1 := hmem j hj x hx
      have h2 := hmem k hk y hy
      have h3 := sh_ne hd (by omega) (by omega) hne
      by_cases hlt : sh.getD j 0 < sh.getD k 0
      · have := lift_step (rows := rows) hj hlt
        omega
      · have := lift_step (rows := rows) hk (show sh.getD k 0 < sh.getD j 0 by omega)
        omega
  · rw [mem_upto, glue_length]
    unfold glue at hx
    obtain ⟨k, hk, hx⟩ := List.mem_flatMap.mp hx
    have hk := List.mem_range.mp hk
    have h1 := hmem k hk x hx
    have h2 := lift_pos (sh := sh) (rows := rows) (k := k)
    have h3 := lift_top (sh := sh) hk
    omega
theorem runSh_length (up : Bool) (m : Nat) : (runSh up m).length = m := by unfold runSh; split <;> simp
theorem runSh_nodup (up : Bool) (m : Nat) : (runSh up m).Nodup := by
  unfold runSh
  split
  · exact (List.nodup_range).map (f := fun i : Nat => (i : Int)) fun a b h e => h (by have e : (a : Int) = b := e; omega)
  · exact (List.nodup_range).map (f := fun i : Nat => (m : Int) - i) fun a b h e => h (by have e : (m : Int) - a = m - b := e; omega)
mutual
theorem orderT_ok : ∀ t : Tr, WfT t → Row (orderT t) ∧ (orderT t).length = sizeT t
  | .one, _ => ⟨by simp only [orderT]; exact List.Perm.refl _, by simp only [orderT, sizeT]; rfl⟩
  | .run up ps, h => by
    simp only [WfT] at h
    simp only [orderT, sizeT]
    obtain ⟨h1, h2⟩ := orderTs_ok ps h.2.2
    exact ⟨glue_row h1 (runSh_nodup _ _) (by rw [runSh_length, orderTs_length]), by rw [glue_length]; exact h2⟩
  | .shp sh ps, h => by
    simp only [WfT] at h
    simp only [orderT, sizeT]
    obtain ⟨h1, h2⟩ := orderTs_ok ps h.2.2.2
    exact ⟨glue_row h1 h.1.row.nodup (by rw [h.2.2.1, orderTs_length]), by rw [glue_length]; exact h2⟩
theorem orderTs_ok : ∀ ps : List Tr, WfTs ps → (∀ r ∈ orderTs ps, Row r) ∧ totalL (orderTs ps) = sizeTs ps
  | [], _ => by simp only [orderTs, sizeTs]; exact ⟨fun r hr => absurd hr List.not_mem_nil, rfl⟩
  | t :: ts, h => by
    simp only [WfTs] at h
    simp only [orderTs, sizeTs]
    obtain ⟨h1, h2⟩ := orderT_ok t h.1
    obtain ⟨h3, h4⟩ := orderTs_ok ts h.2
    refine ⟨fun r hr => ?_, ?_⟩
    · rcases List.mem_cons.mp hr with rfl | hr
      · exact h1
      · exact h3 r hr
    · unfold totalL at h4 ⊢
      rw [List.map_cons, List.sum_cons, h2, h4]
end
end VL
namespace VL
open PySem PySem.Spec PyProof.Rows L2
theorem ix_last {xs : List D} {x : D} : atI (xs ++ [x]) (-1) = some x := atI_last xs x
theorem sub_new {S : Own} {p : Addr} {o : Ob} (h : S p = none) : Sub S (ust S p o) := fun a u e => by rw [ust_ne (own_ne e h)]; exact e
theorem toPs_tree : ∀ {ts : List Tr} {B : Nat}, (∀ t ∈ ts, ∃ p, toP (treeD t) = some p ∧ p.depth ≤ B) → ∃ ps, toPs (treeDs ts) = some ps ∧ PyData.depthAll ps ≤ B
  | [], B, _ => ⟨[], rfl, Nat.zero_le _⟩
  | t :: ts, B, h => by
    obtain ⟨p, h1, h2⟩ := h t (by simp)
    obtain ⟨ps, h3, h4⟩ := toPs_tree (ts := ts) (B := B) fun q hq => h q (by simp [hq])
    exact ⟨p :: ps, by simp only [treeDs, toPs, h1, h3], by simp only [PyData.depthAll]; omega⟩
theorem tree_data : ∀ (n : Nat) (t : Tr), sizeT t ≤ n → WfT t → ∃ p, toP (treeD t) = some p ∧ p.depth ≤ 2 * sizeT t + 1
  | n, .one, _, _ => ⟨.tuple [.str "one"], by simp only [treeD, toP, toPs], by simp only [PyData.depth, PyData.depthAll, sizeT]; omega⟩
  | 0, .run up ps, hn, h => by have := sizeT_pos _ h; omega
  | n + 1, .run up ps, hn, h => by
    simp only [WfT] at h
    simp only [sizeT] at hn ⊢
    obtain ⟨qs, h1, h2⟩ := toPs_tree (ts := ps) (B := 2 * sizeTs ps - 1) fun t ht => by
      have hk := size_kid h.2.2 h.1 t ht
      obtain ⟨p, a, b⟩ := tree_data n t (by omega) (wfTs_mem h.2.2 t ht)
      exact ⟨p, a, by omega⟩
    have := sizeTs_ge ps h.2.2
    exact ⟨.tuple [.str (wordOf up), .tuple qs], by simp only [treeD, toP, toPs, h1], by simp only [PyData.depth, PyData.depthAll]; omega⟩
  | 0, .shp sh ps, hn, h => by have := sizeT_pos _ h; omega
  | n + 1, .shp sh ps, hn, h => by
    simp only [WfT] at h
    simp only [sizeT] at hn ⊢
    have hl := h.1.len
    obtain ⟨qs, h1, h2⟩ := toPs_tree (ts := ps) (B := 2 * sizeTs ps - 1) fun t ht => by
      have hk := size_kid h.2.2.2 (by omega) t ht
      obtain ⟨p, a, b⟩ := tree_data n t (by omega) (wfTs_mem h.2.2.2 t ht)
      exact ⟨p, a, by omega⟩
    have := sizeTs_ge ps h.2.2.2
    exact ⟨.tuple [.str "shape", .tuple (sh.map PyData.int), .tuple qs], by simp only [treeD, tupI, toP, toPs, toPs_ints, h1], by simp only [PyData.depth, PyData.depthAll, depth_ints]; omega⟩
def isOne : Tr → Bool
  | .one => true
  | _ => false
theorem vw_tree {S : Own} {t : Tr} : vw S (treeD t) = treeD t := by cases t <;> simp only [treeD, vw]
theorem q_eqOne {S : Own} {Q : KE} {g : Bool → Bool} {t : Tr} (hw : WfT t) (hs : sizeT t ≤ 90) : rvEqv g (treeD t) (.tup [.str "one"]) S Q = Q (.bl (g (isOne t))) S := by
  obtain ⟨p, hp, hd⟩ := tree_data _ t (Nat.le_refl _) hw
  have e2 : toP (vw S (.tup [.str "one"])) = some (.tuple [.str "one"]) := rfl
  rw [q_eqv (p := p) (by rw [vw_tree]; exact hp) e2]
  have e3 : PyData.eqv p (.tuple [.str "one"]) = isOne t := by
    cases t with
    | one =>
      simp only [treeD, toP, toPs, Option.some.injEq] at hp
      subst hp
      simp only [PyData.eqv, PyData.eqvAll, isOne, beq_self_eq_true, Bool.and_self]
    | run up ps =>
      simp only [treeD, toP, toPs] at hp
      cases h : toPs (treeDs ps) with
      | none => rw [h] at hp; cases hp
      | some qs =>
        rw [h] at hp
        cases hp
        simp only [PyData.eqv, PyData.eqvAll, isOne, Bool.and_false]
    | shp sh ps =>
      simp only [treeD, tupI, toP, toPs, toPs_ints] at hp
      cases h : toPs (treeDs ps) with
      | none => rw [h] at hp; cases hp
      | some qs =>
        rw [h] at hp
        cases hp
        simp only [PyData.eqv, PyData.eqvAll, isOne, Bool.and_false]
  rw [e3]
  have : p.depth ≤ 190 := by omega
  simp only [this, true_and]
theorem q_disp {prs : List (TEv × TEv)} {ρ : VS} {S : Own} {Q : KE} : tvDisp prs ρ S Q = (∀ p, S p = none → tvPairs prs ρ (ust S p (.dK [])) fun kvs S2 => S2 p = some (.dK []) ∧ kvs.length ≤ 15 ∧ (kvs.map (·.1)).Nodup ∧ Q (.ref p) (ust S2 p (.dK kvs))) := rfl
theorem q_pr0 {ρ : VS} {S : Own} {Q : List (Key × D) → Own → Prop} : tvPairs [] ρ S Q = Q [] S := rfl
theorem q_prS {Tk Tv : TEv} {r : List (TEv × TEv)} {ρ : VS} {S : Own} {Q : List (Key × D) → Own → Prop} : tvPairs ((Tk, Tv) :: r) ρ S Q = Tk ρ S (fun k S1 => Tv ρ S1 fun v S2 => ∃ key, keyD k = some key ∧ tvPairs r ρ S2 fun kvs S3 => Q ((key, v) :: kvs) S3) := rfl
end VL
namespace VL
open PySem PySem.Spec PyProof.Rows L2
local macro_rules | `(tactic| walk_at "vs") => `(tactic| simp only [q_var0, q_varS, q_sat0, q_satS, q_C, q_op, q_un, q_test, q_kB, q_not, q_and, q_or, q_ifE, q_andV, q_orV, q_notV, q_chain, q_nil, q_cons, q_tup, q_lst, q_lstO, q_CB, q_BM, q_call, q_seq, q_next, q_set, q_drop, q_ret, q_if, q_setIx, q_stD, q_nx, q_rt, q_endr, q_endn, q_I, q_I0, q_addI, q_addT, q_addL, q_neg, q_ixT atI_0, q_ixT atI_1, q_ixT atI_2, q_lenT, q_lenL, q_lenS, q_int1, q_intB, q_I1, q_II, q_tupT, q_tupL, q_rgL, q_lc, q_lcO, q_r1, q_r2, q_kR1, q_kR2, q_sq, q_kSqT, q_kSqL, q_kSqQ, q_isi, q_rev, q_revT, q_revL, q_wip0, q_wipS, q_unst0, q_unstS, q_yes, q_eqI, q_bls, q_sum, q_rcT, q_rcL, if_true, q_for, q_enum, q_kEnT, q_kEnL, q_repO, q_rep, q_let, q_bind, q_slv, q_noPart, q_part, q_kP, q_slT, q_slL, q_listT, q_listL, q_eqB, q_rgL3,
  List.map_cons, List.map_nil, List.cons_append, List.nil_append, List.length_cons, List.length_nil, List.replicate])

def T_l_tree_r (Fr : FS) : TSv := (tvSeq (tvSet 7 (tvOp rvSub (tvVar 1) (tvCB rvLen (tvCons (tvVar 4) tvNil))))
  (tvSeq (tvIf (tvTest (tvOp rvEq (tvCall F_l_take (tvCons (tvVar 0) (tvCons (tvC (.int 3)) tvNil))) (tvC (.int 1))))
  (tvSeq (tvAugIx (tvVar 7) (tvVar 4) (tvCall F_l_take (tvCons (tvVar 0) (tvCons (tvCB rvLen (tvCons (tvVar 4) tvNil)) tvNil))))
  (tvSet 7 (tvC (.int 0))))
  tvNext)
  (tvSeq (tvFor (tvRng1 (tvCons (tvVar 7) tvNil)) (.name 8)
  (tvAugIx (tvC (.int 1)) (tvVar 4) (tvCall F_l_take (tvCons (tvVar 0) (tvCons (tvCB rvLen (tvCons (tvVar 4) tvNil)) tvNil)))))
  (tvRet (tvOp rvAdd (tvVar 5) (tvTup (tvCons (tvCB rvTuple (tvCons (tvLc (tvSq (tvLet (tvVar 4))) (.name 9) ttYes (tvCall Fr (tvCons (tvVar 0) (tvCons (tvVar 9) (tvCons (tvVar 3) tvNil)))) [9]) tvNil)) tvNil)))))))
def T_l_tree (Fr : FS) : TSv := (tvSeq (tvIf (tvTest (tvOp rvEq (tvVar 1) (tvC (.int 1))))
  (tvRet (tvTup (tvCons (tvC (.str "one")) tvNil)))
  tvNext)
  (tvSeq (tvSet 3 (tvC (.str "shape")))
  (tvSeq (tvIf (tvOr (tvTest (tvOp rvLt (tvVar 1) (tvC (.int 4)))) (tvTest (tvOp rvLt (tvCall F_l_take (tvCons (tvVar 0) (tvCons (tvC (.int 4)) tvNil))) (tvC (.int 2)))))
  (tvSeq (tvSet 3 (tvOp rvIx (tvLst (tvCons (tvC (.str "rise")) (tvCons (tvC (.str "fall")) tvNil))) (tvCall F_l_take (tvCons (tvVar 0) (tvCons (tvC (.int 2)) tvNil)))))
  (tvSeq (tvSet 3 (tvIfE (tvTest (tvOp rvEq (tvVar 3) (tvVar 2))) (tvOp rvDix (tvDisp [((tvC (.str "rise")), (tvC (.str "fall"))), ((tvC (.str "fall")), (tvC (.str "rise")))]) (tvVar 3)) (tvVar 3)))
  (tvSeq (tvSet 4 (tvOp rvRepO (tvLst (tvCons (tvC (.int 1)) tvNil)) (tvOp rvAdd (tvC (.int 2)) (tvCall F_l_take (tvCons (tvVar 0) (tvCons (tvCB (rvII fun i j => .int (if j < i then j else i)) (tvCons (tvOp rvSub (tvVar 1) (tvC (.int 1))) (tvCons (tvC (.int 4)) tvNil))) tvNil))))))
  (tvSet 5 (tvTup (tvCons (tvVar 3) tvNil))))))
  (tvSeq (tvSet 6 (tvCall F_l_unbroken (tvCons (tvVar 0) (tvCons (tvCB (rvII fun i j => .int (if j < i then j else i)) (tvCons (tvVar 1) (tvCons (tvC (.int 7)) tvNil))) tvNil))))
  (tvSeq (tvSet 4 (tvOp rvRepO (tvLst (tvCons (tvC (.int 1)) tvNil)) (tvCB rvLen (tvCons (tvVar 6) tvNil))))
  (tvSet 5 (tvTup (tvCons (tvVar 3) (tvCons (tvVar 6) tvNil)))))))
  (T_l_tree_r Fr))))
def F_l_tree : Nat → FS
  | 0 => fun _ _ _ => False
  | n + 1 => fun ds S Q => ∃ p c r k N, ∃ m : Nat, ∃ ab : Str, ds = [.ref p, .int m, .str ab] ∧ 1 ≤ m ∧ m ≤ n + 1 ∧ m ≤ 90 ∧ S p = some (.lst (bagD c r k)) ∧ BagOk c r k N ∧ N + (200 * (m : Int) - 150) ≤ 2 ^ 40 ∧
    ∀ c' r' k' t, BagOk c' r' k' (N + (200 * (m : Int) - 150)) → WfT t → sizeT t = m → (∀ up, headT t = some up → wordOf up ≠ ab) → Q (treeD t) (ust S p (.lst (bagD c' r' k')))
/-- all but p is kept -/
def Kp (S0 S : Own) (p : Addr) : Prop := ∀ a o, a ≠ p → S0 a = some o → S a = some o
theorem kp_sub {S0 S : Own} {p : Addr} {o : Ob} (h : Kp S0 S p) (hp : S p = some o) : Sub (ust S0 p o) S := fun a u e => by
  by_cases z : a = p
  · subst z; rw [ust_same] at e; rw [hp, e]
  · rw [ust_ne z] at e; exact h a u z e
theorem kp_bag {S0 S : Own} {p : Addr} {o : Ob} (h : Kp S0 S p) : Kp S0 (ust S p o) p := fun a u z e => by rw [ust_ne z]; exact h a u z e
theorem kp_new {S0 S : Own} {p q : Addr} {o : Ob} (h : Kp S0 S p) (hq : S0 q = none) : Kp S0 (ust S q o) p := fun a u z e => by rw [ust_ne (own_ne e hq)]; exact h a u z e
theorem kp_del {S0 S : Own} {p q : Addr} (h : Kp S0 S p) (hq : S0 q = none) : Kp S0 (del S q) p := fun a u z e => by rw [del_ne (own_ne e hq)]; exact h a u z e
theorem sum_set : ∀ (l : List Nat) (j c x : Nat), l[j]? = some x → (l.set j (x + c)).sum = l.sum + c
  | [], j, c, x, h => by simp at h
  | a :: l, 0, c, x, h => by simp at h; subst h; simp only [List.set_cons_zero, List.sum_cons]; omega
  | a :: l, j + 1, c, x, h => by
    simp only [List.getElem?_cons_succ] at h
    simp only [List.set_cons_succ, List.sum_cons, sum_set l j c x h]; omega
def natsD (l : List Nat) : List D := l.map fun n => .int (n : Nat)
theorem natsD_set (l : List Nat) (j x : Nat) : (natsD l).set j (.int (x : Nat)) = natsD (l.set j x) := by unfold natsD; rw [List.map_set]
theorem sum_ge : ∀ {l : List Nat}, (∀ x ∈ l, 1 ≤ x) → l.length ≤ l.sum
  | [], _ => by simp
  | a :: l, h => by
    have := sum_ge (l := l) fun x hx => h x (by simp [hx])
    have := h a (by simp)
    simp only [List.length_cons, List.sum_cons]; omega
theorem mem_le_sum : ∀ {l : List Nat}, (∀ x ∈ l, 1 ≤ x) → ∀ x ∈ l, x + (l.length - 1) ≤ l.sum
  | a :: l, h, x, hx => by
    have h1 := sum_ge (l := l) fun y hy => h y (by simp [hy])
    simp only [List.length_cons, List.sum_cons]
    rcases List.mem_cons.mp hx with rfl | hx
    · omega
    · have := mem_le_sum (l := l) (fun y hy => h y (by simp [hy])) x hx
      have := h a (by simp)
      have : 0 < l.length := List.length_pos_of_mem hx
      omega
theorem set_ge {l : List Nat} {j x : Nat} (h : ∀ y ∈ l, 1 ≤ y) (hx : 1 ≤ x) : ∀ y ∈ l.set j x, 1 ≤ y := fun y hy => by
  rcases List.mem_or_eq_of_mem_set hy with h1 | h1
  · exact h y h1
  · rw [h1]; exact hx
theorem rep_sum : ∀ k : Nat, (List.replicate k 1).sum = k
  | 0 => rfl
  | k + 1 => by rw [List.replicate_succ, List.sum_cons, rep_sum k]; omega
theorem var_of {ρ : VS} {i : Nat} {d : D} (h : nth ρ i = some d) {S : Own} {Q : KE} : tvVar i ρ S Q = Q d S := by unfold tvVar; rw [h]
theorem aug_ok {p q : Addr} {ρ : VS} {S0 S : Own} {l : List Nat} {cc : Nat} {c r k N : Int} {Te : TEv} {Dv : EndsV} (hT : ∀ S Q, Te ρ S Q = Q (.int (cc : Nat)) S) (h0 : nth ρ 0 = some (.ref p)) (h4 : nth ρ 4 = some (.ref q)) (hpq : p ≠ q) (hq0 : S0 q = none) (hK : Kp S0 S p)
    (hp : S p = some (.lst (bagD c r k))) (hq : S q = some (.lst (natsD l))) (hl : 0 < l.length) (hl2 : l.length ≤ 1000) (hge : ∀ y ∈ l, 1 ≤ y) (hb : BagOk c r k N) (hN : N ≤ 2 ^ 40)
    (nx : ∀ S' l' c' r' k', l'.length = l.length → l'.sum = l.sum + cc → (∀ y ∈ l', 1 ≤ y) → S' p = some (.lst (bagD c' r' k')) → BagOk c' r' k' (N + 1) → S' q = some (.lst (natsD l')) → Kp S0 S' p → Dv.nx ρ S') :
    tvAugIx Te (tvVar 4) (tvCall F_l_take (tvCons (tvVar 0) (tvCons (tvCB rvLen (tvCons (tvVar 4) tvNil)) tvNil))) Dv ρ S := by
  unfold tvAugIx
  simp only [var_of h0, var_of h4, q_call, q_cons, q_nil, q_CB, q_lenO hq]
  have hnl : (natsD l).length = l.length := by unfold natsD; rw [List.length_map]
  rw [hnl]
  refine q_takeI hp hb hN (by omega) (by omega) fun c' r' k' d hb' d0 d1 => ?_
  obtain ⟨j, rfl⟩ := Int.eq_ofNat_of_zero_le d0
  have hj : j < l.length := by omega
  have hx : l[j]? = some l[j] := List.getElem?_eq_getElem hj
  have hq2 : ust S p (.lst (bagD c' r' k')) q = some (.lst (natsD l)) := by rw [ust_ne (Ne.symm hpq)]; exact hq
  refine ⟨q, natsD l, j, (l[j] : Nat), rfl, hq2, rfl, atI_nat (by unfold natsD; rw [List.getElem?_map, hx]; rfl), ?_⟩
  simp only [hT]
  refine ⟨cc, rfl, ?_⟩
  rw [q_setO hq2 (ixN_of (by rw [hnl]; exact hj))]
  have e : ((l[j] : Nat) : Int) + (cc : Int) = ((l[j] + cc : Nat) : Int) := by omega
  rw [e, natsD_set]
  refine nx _ (l.set j (l[j] + cc)) c' r' k' (List.length_set ..) (sum_set l j cc _ hx) (set_ge hge (by have := hge _ (List.getElem_mem hj); omega)) (by rw [ust_ne hpq, ust_same]) hb' ust_same (kp_new (kp_bag hK) hq0)
def costS (l : List Nat) : Int := 200 * ((l.sum : Nat) : Int) - 150 * (l.length : Nat)
theorem tree_kids {n : Nat} {p : Addr} {w : Str} {ρ : VS} {S0 : Own} (h0 : ∀ d, nth (sat ρ 9 d) 0 = some (.ref p)) (h3 : ∀ d, nth (sat ρ 9 d) 3 = some (.str w)) (h9 : ∀ d, nth (sat ρ 9 d) 9 = some d) : ∀ (l : List Nat) (S : Own) (c r k N : Int) (Q : List D → Own → Prop), (∀ x ∈ l, 1 ≤ x ∧ x ≤ n ∧ x ≤ 90) →
    Kp S0 S p → S p = some (.lst (bagD c r k)) → BagOk c r k N → N + costS l ≤ 2 ^ 40 →
    (∀ S' c' r' k' ps, Kp S0 S' p → S' p = some (.lst (bagD c' r' k')) → BagOk c' r' k' (N + costS l) → ps.length = l.length → WfTs ps → sizeTs ps = l.sum → (∀ t ∈ ps, ∀ up, headT t = some up → wordOf up ≠ w) → Q (treeDs ps) S') →
    compV (.name 9) ttYes (tvCall (F_l_tree n) (tvCons (tvVar 0) (tvCons (tvVar 9) (tvCons (tvVar 3) tvNil)))) ρ (natsD l) S Q
  | [], S, c, r, k, N, Q, hl, hK, hp, hb, hN, q => by
    have := q S c r k [] hK hp (hb.mono (by simp [costS])) rfl (by simp only [WfTs]) (by simp only [sizeTs]; rfl) (fun t ht => absurd ht List.not_mem_nil)
    simp only [treeDs] at this
    exact this
  | x :: l, S, c, r, k, N, Q, hl, hK, hp, hb, hN, q => by
    obtain ⟨x1, xn, x90⟩ := hl x (by simp)
    have hcs : costS (x :: l) = (200 * (x : Int) - 150) + costS l := by unfold costS; simp only [List.sum_cons, List.length_cons]; omega
    have hpos : 0 ≤ costS l := by
      have := sum_ge (l := l) fun y hy => (hl y (by simp [hy])).1
      unfold costS; omega
    unfold natsD
    rw [List.map_cons, comp_cons bind_name]
    simp only [q_yes, if_true, q_call, q_cons, q_nil, var_of (h0 _), var_of (h3 _), var_of (h9 _)]
    obtain ⟨n', rfl⟩ : ∃ n', n = n' + 1 := ⟨n - 1, by omega⟩
    refine ⟨p, c, r, k, N, x, w, rfl, x1, xn, x90, hp, hb, by omega, fun c' r' k' t hb' hwt hst hht => ?_⟩
    refine tree_kids h0 h3 h9 l _ c' r' k' _ _ (fun y hy => hl y (by simp [hy])) (kp_bag hK) ust_same hb' (by omega) fun S' c2 r2 k2 ps hK2 hp2 hb2 hl2 hw2 hs2 hh2 => ?_
    have := q S' c2 r2 k2 (t :: ps) hK2 hp2 (hb2.mono (by omega)) (by simp [hl2]) (by simp only [WfTs]; exact ⟨hwt, hw2⟩) (by simp only [sizeTs, List.sum_cons]; omega) (fun t' ht' => by
      rcases List.mem_cons.mp ht' with rfl | h
      · exact hht
      · exact hh2 t' h)
    simp only [treeDs] at this
    exact this
theorem tree_tail {n m kk : Nat} {p q : Addr} {ab w : Str} {nd : List D} {x6 x7 x8 x9 : Option D} {S0 S : Own} {c r k N : Int} {Qv : KE} (hpq : p ≠ q) (hq0 : S0 q = none) (hK : Kp S0 S p) (hp : S p = some (.lst (bagD c r k))) (hq : S q = some (.lst (natsD (List.replicate kk 1)))) (hb : BagOk c r k N)
    (hk2 : 2 ≤ kk) (hkm : kk ≤ m) (hmn : m ≤ n + 1) (hm90 : m ≤ 90) (hN : N + 2 + m + (200 * (m : Int) - 150 * kk) ≤ 2 ^ 40) (hnd : nd.length ≤ 10)
    (qq : ∀ c' r' k' ps, BagOk c' r' k' (N + 2 + m + (200 * (m : Int) - 150 * kk)) → ps.length = kk → WfTs ps → sizeTs ps = m → (∀ t ∈ ps, ∀ up, headT t = some up → wordOf up ≠ w) → Qv (.tup (nd ++ [.tup (treeDs ps)])) (ust S0 p (.lst (bagD c' r' k')))) :
    T_l_tree_r (F_l_tree n) (endsV Qv) [some (.ref p), some (.int m), some (.str ab), some (.str w), some (.ref q), some (.tup nd), x6, x7, x8, x9] S := by
  have hnl : ∀ l : List Nat, (natsD l).length = l.length := fun l => by unfold natsD; rw [List.length_map]
  -- the loop and what is behind it
  have fin : ∀ (l : List Nat) (left : Nat) (x8' : Option D) (S : Own) (c r k N1 : Int), l.length = kk → l.sum + left = m → (∀ y ∈ l, 1 ≤ y) → Kp S0 S p → S p = some (.lst (bagD c r k)) → S q = some (.lst (natsD l)) → BagOk c r k N1 → N1 + left ≤ N + 2 + m →
      (tvSeq (tvFor (tvRng1 (tvCons (tvVar 7) tvNil)) (.name 8) (tvAugIx (tvC (.int 1)) (tvVar 4) (tvCall F_l_take (tvCons (tvVar 0) (tvCons (tvCB rvLen (tvCons (tvVar 4) tvNil)) tvNil)))))
        (tvRet (tvOp rvAdd (tvVar 5) (tvTup (tvCons (tvCB rvTuple (tvCons (tvLc (tvSq (tvLet (tvVar 4))) (.name 9) ttYes (tvCall (F_l_tree n) (tvCons (tvVar 0) (tvCons (tvVar 9) (tvCons (tvVar 3) tvNil)))) [9]) tvNil)) tvNil))))) (endsV Qv)
        [some (.ref p), some (.int m), some (.str ab), some (.str w), some (.ref q), some (.tup nd), x6, some (.int (left : Nat)), x8', x9] S := by
    intro l left x8' S c r k N1 hll hsum hge hK hp hq hb hN1
    walk_at "vs"
    refine ⟨by omega, ?_⟩
    rw [show ((left : Nat) : Int).toNat = left by omega]
    refine for_inv (fun i ρ S' => ∃ (x8 : Option D) (l' : List Nat) (c' r' k' : Int), ρ = [some (.ref p), some (.int m), some (.str ab), some (.str w), some (.ref q), some (.tup nd), x6, some (.int (left : Nat)), x8, x9] ∧ l'.length = kk ∧ l'.sum = l.sum + i ∧ (∀ y ∈ l', 1 ≤ y) ∧ Kp S0 S' p ∧ S' p = some (.lst (bagD c' r' k')) ∧ S' q = some (.lst (natsD l')) ∧ BagOk c' r' k' (N1 + i))
      (fun i d ρ S' hd hi => ?_) ⟨_, l, c, r, k, rfl, hll, rfl, hge, hK, hp, hq, hb.mono (by simp)⟩ fun ρ S' hi => ?_
    · obtain ⟨x8, l', c', r', k', rfl, h1, h2, h3, h4, h5, h6, h7⟩ := hi
      have hil : i < left := by
        have := (List.getElem?_eq_some_iff.mp hd).1
        rwa [rngD_length] at this
      refine ⟨_, rfl, fun kx hkx => ?_⟩
      simp only [sat]
      refine aug_ok (S0 := S0) (cc := 1) (fun _ _ => rfl) rfl rfl hpq hq0 h4 h5 h6 (by omega) (by omega) h3 h7 (by omega) fun S2 l2 c2 r2 k2 a1 a2 a3 a4 a5 a6 a7 => ?_
      exact hkx _ _ ⟨_, l2, c2, r2, k2, rfl, by omega, by omega, a3, a7, a4, a6, a5.mono (by omega)⟩
    · obtain ⟨x8, l', c', r', k', rfl, h1, h2, h3, h4, h5, h6, h7⟩ := hi
      rw [rngD_length] at h2 h7
      walk_at "vs"
      refine ⟨q, natsD l', rfl, h6, by rw [hnl]; exact sz (by omega), ?_⟩
      refine tree_kids (S0 := S0) (w := w) (p := p) (fun _ => rfl) (fun _ => rfl) (fun _ => rfl) l' _ c' r' k' _ _ (fun y hy => ?_) (kp_del h4 hq0) (by rw [del_ne hpq]; exact h5) h7 ?_ fun S3 c3 r3 k3 ps b1 b2 b3 b4 b5 b6 b7 => ?_
      · have := h3 y hy
        have := mem_le_sum h3 y hy
        omega
      · unfold costS
        rw [h1, h2]
        omega
      · refine ⟨sz, by rw [sizeLine_eq]; omega, ?_⟩
        refine fin_sub (kp_sub b1 b2) (qq c3 r3 k3 ps (b3.mono ?_) (by omega) b5 (by omega) b7)
        unfold costS
        rw [h1, h2]
        omega
  have hrs : (List.replicate kk 1).sum = kk := rep_sum kk
  have hrg : ∀ y ∈ List.replicate kk 1, 1 ≤ y := fun y hy => by rw [List.eq_of_mem_replicate hy]; exact Nat.le_refl _
  unfold T_l_tree_r
  walk_at "vs"
  simp only [q_lenO hq, hnl, List.length_replicate, rvSub, q_I0]
  refine q_takeI hp hb (by omega) (by omega) (by omega) fun c1 r1 k1 d hb1 d0 d1 => ?_
  have hq1 : ust S p (.lst (bagD c1 r1 k1)) q = some (.lst (natsD (List.replicate kk 1))) := by rw [ust_ne (Ne.symm hpq)]; exact hq
  have el : (m : Int) - (kk : Int) = ((m - kk : Nat) : Int) := by omega
  rw [el]
  simp only [rvEq, q_eqI, q_kB]
  split
  · refine aug_ok (S0 := S0) (l := List.replicate kk 1) (cc := m - kk) (fun _ _ => rfl) rfl rfl hpq hq0 (kp_bag hK) ust_same hq1 (by rw [List.length_replicate]; omega) (by rw [List.length_replicate]; omega) hrg hb1 (by omega) fun S2 l2 c2 r2 k2 a1 a2 a3 a4 a5 a6 a7 => ?_
    rw [List.length_replicate] at a1
    rw [hrs] at a2
    exact fin l2 0 _ S2 c2 r2 k2 (N + 1 + 1) a1 (by omega) a3 a7 a4 a6 a5 (by omega)
  · have h := fin (List.replicate kk 1) (m - kk) x8 _ c1 r1 k1 (N + 1) (List.length_replicate ..) (by rw [hrs]; omega) hrg (kp_bag hK) ust_same hq1 hb1 (by omega)
    simp only [q_seq, q_for, q_r1, q_cons, q_nil, q_varS, q_var0, q_ret, q_endr] at h
    exact h
end VL
namespace VL
open PySem PySem.Spec PyProof.Rows L2
local macro_rules | `(tactic| walk_at "vs") => `(tactic| simp only [q_var0, q_varS, q_sat0, q_satS, q_C, q_op, q_un, q_test, q_kB, q_not, q_and, q_or, q_ifE, q_andV, q_orV, q_notV, q_chain, q_nil, q_cons, q_tup, q_lst, q_lstO, q_CB, q_BM, q_call, q_seq, q_next, q_set, q_drop, q_ret, q_if, q_setIx, q_stD, q_nx, q_rt, q_endr, q_endn, q_I, q_I0, q_addI, q_addT, q_addL, q_neg, q_ixT atI_0, q_ixT atI_1, q_ixT atI_2, q_lenT, q_lenL, q_lenS, q_int1, q_intB, q_I1, q_II, q_tupT, q_tupL, q_rgL, q_lc, q_lcO, q_r1, q_r2, q_kR1, q_kR2, q_sq, q_kSqT, q_kSqL, q_kSqQ, q_isi, q_rev, q_revT, q_revL, q_wip0, q_wipS, q_unst0, q_unstS, q_yes, q_eqI, q_bls, q_sum, q_rcT, q_rcL, if_true, q_for, q_enum, q_kEnT, q_kEnL, q_repO, q_rep, q_let, q_bind, q_slv, q_noPart, q_part, q_kP, q_slT, q_slL, q_listT, q_listL, q_eqB, q_rgL3,
  List.map_cons, List.map_nil, List.cons_append, List.nil_append, List.length_cons, List.length_nil, List.replicate])

theorem dix_words {S : Own} {Q : KE} {p : Addr} {up : Bool} (hS : S p = some (.dK [((.inr "rise" : Key), D.str "fall"), (.inr "fall", D.str "rise")])) (q : Q (.str (wordOf (!up))) S) : rvDix (.ref p) (.str (wordOf up)) S Q := by
  refine ⟨p, _, .inr (wordOf up), .str (wordOf (!up)), rfl, hS, rfl, ?_, q⟩
  cases up <;> rfl
theorem wordOf_inj {a b : Bool} (h : wordOf a = wordOf b) : a = b := by
  cases a <;> cases b <;> first | rfl | (exact absurd h (by decide))
theorem q_eqW {S : Own} {Q : KE} {g : Bool → Bool} {a b : Str} : rvEqv g (.str a) (.str b) S Q = Q (.bl (g (a == b))) S := by
  rw [q_eqv (p := .str a) (q := .str b) rfl rfl]
  simp only [PyData.depth, PyData.eqv, Nat.zero_le, true_and]
theorem t_l_tree (n : Nat) : ∀ ds S Qv, F_l_tree (n + 1) ds S Qv → T_l_tree (F_l_tree n) (endsV Qv) (stD 10 ds) S := by
  rintro ds S Qv ⟨p, c, r, k, N, m, ab, rfl, hm1, hmn, hm90, hS, hb, hN, q⟩
  unfold T_l_tree
  walk_at "vs"
  by_cases h1 : m = 1
  · subst h1
    simp only [rvEq, q_eqI, q_kB]
    rw [if_pos (by decide)]
    refine ⟨sz, ?_⟩
    have := q c r k .one (hb.mono (by omega)) (by simp only [WfT]) (by simp only [sizeT]) (fun up h => by cases h)
    simp only [treeD] at this
    have e : ust S p (.lst (bagD c r k)) = S := ust_id hS
    rw [e] at this
    exact fin_of this
  · simp only [rvEq, q_eqI, q_kB]
    rw [if_neg (by rw [decide_eq_true_eq]; omega)]
    -- a run
    have run : ∀ c1 r1 k1 S1, S1 p = some (.lst (bagD c1 r1 k1)) → BagOk c1 r1 k1 (N + 1) → Kp S S1 p →
        (tvSeq (tvSet 3 (tvOp rvIx (tvLst (tvCons (tvC (.str "rise")) (tvCons (tvC (.str "fall")) tvNil))) (tvCall F_l_take (tvCons (tvVar 0) (tvCons (tvC (.int 2)) tvNil)))))
          (tvSeq (tvSet 3 (tvIfE (tvTest (tvOp rvEq (tvVar 3) (tvVar 2))) (tvOp rvDix (tvDisp [((tvC (.str "rise")), (tvC (.str "fall"))), ((tvC (.str "fall")), (tvC (.str "rise")))]) (tvVar 3)) (tvVar 3)))
          (tvSeq (tvSet 4 (tvOp rvRepO (tvLst (tvCons (tvC (.int 1)) tvNil)) (tvOp rvAdd (tvC (.int 2)) (tvCall F_l_take (tvCons (tvVar 0) (tvCons (tvCB (rvII fun i j => .int (if j < i then j else i)) (tvCons (tvOp rvSub (tvVar 1) (tvC (.int 1))) (tvCons (tvC (.int 4)) tvNil))) tvNil))))))
          (tvSet 5 (tvTup (tvCons (tvVar 3) tvNil)))))) { nx := T_l_tree_r (F_l_tree n) (endsV Qv), rt := fin Qv, bk := (endsV Qv).bk, ct := (endsV Qv).ct } [some (.ref p), some (.int m), some (.str ab), some (.str "shape"), none, none, none, none, none, none] S1 := by
      intro c1 r1 k1 S1 hS1 hb1 hK1
      walk_at "vs"
      refine ⟨sz, ?_⟩
      refine q_takeI hS1 hb1 (by omega) (by omega) (by omega) fun c2 r2 k2 d hb2 d0 d1 => ?_
      have hw : ∃ up, atI [D.str "rise", .str "fall"] d = some (.str (wordOf up)) := by
        by_cases hd : d = 0
        · subst hd; exact ⟨true, rfl⟩
        · have : d = 1 := by omega
          subst this; exact ⟨false, rfl⟩
      obtain ⟨up, hu⟩ := hw
      simp only [q_ixL hu, q_sat0, q_satS, rvEq, q_eqW, q_kB]
      -- the word, and what stands behind
      have rest : ∀ (up : Bool) (S2 : Own), wordOf up ≠ ab → S2 p = some (.lst (bagD c2 r2 k2)) → Kp S S2 p →
          (tvSeq (tvSet 4 (tvOp rvRepO (tvLst (tvCons (tvC (.int 1)) tvNil)) (tvOp rvAdd (tvC (.int 2)) (tvCall F_l_take (tvCons (tvVar 0) (tvCons (tvCB (rvII fun i j => .int (if j < i then j else i)) (tvCons (tvOp rvSub (tvVar 1) (tvC (.int 1))) (tvCons (tvC (.int 4)) tvNil))) tvNil))))))
            (tvSet 5 (tvTup (tvCons (tvVar 3) tvNil)))) { nx := T_l_tree_r (F_l_tree n) (endsV Qv), rt := fin Qv, bk := (endsV Qv).bk, ct := (endsV Qv).ct } [some (.ref p), some (.int m), some (.str ab), some (.str (wordOf up)), none, none, none, none, none, none] S2 := by
        intro up S2 hne hS2 hK2
        walk_at "vs"
        refine ⟨sz, ?_⟩
        have em : (if (4 : Int) < (m : Int) - 1 then (4 : Int) else (m : Int) - 1) ≥ 1 ∧ (if (4 : Int) < (m : Int) - 1 then (4 : Int) else (m : Int) - 1) ≤ m - 1 := by split <;> omega
        refine q_takeI hS2 hb2 (by omega) (by omega) (by omega) fun c3 r3 k3 e hb3 e0 e1 => ?_
        obtain ⟨j, rfl⟩ := Int.eq_ofNat_of_zero_le e0
        simp only [q_addI, q_repO]
        have hjm : (j : Int) ≤ m - 2 := by omega
        refine ⟨by omega, by omega, by rw [sizeLine_eq]; simp only [List.length_cons, List.length_nil]; omega, fun z hz => ⟨sz, ?_⟩⟩
        have ez : (List.replicate (2 + (j : Int)).toNat [D.int 1]).flatten = natsD (List.replicate (2 + j) 1) := by
          rw [show (2 + (j : Int)).toNat = 2 + j by omega]
          generalize 2 + j = x
          induction x with
          | zero => rfl
          | succ x ih => rw [List.replicate_succ, List.replicate_succ, List.flatten_cons, ih]; rfl
        rw [ez]
        have hpz : p ≠ z := fun e => by rw [e, ust_same] at hz; cases hz
        have hz0 : S z = none := by
          cases h : S z with
          | none => rfl
          | some o =>
            have := hK2 z o (Ne.symm hpz) h
            rw [ust_ne (Ne.symm hpz), this] at hz; cases hz
        refine tree_tail (S0 := S) (kk := 2 + j) (n := n) (N := N + 1 + 1 + 1) (nd := [D.str (wordOf up)]) hpz hz0 (kp_new (kp_bag hK2) hz0) (by rw [ust_ne hpz, ust_same]) ust_same hb3 (by omega) (by omega) hmn hm90 (by omega) (by simp) fun c' r' k' ps b1 b2 b3 b4 b5 => ?_
        have := q c' r' k' (.run up ps) (b1.mono (by omega)) (by simp only [WfT]; exact ⟨by omega, fun t ht h => b5 t ht up h rfl, b3⟩) (by simp only [sizeT]; exact b4) (fun u h => by
          simp only [headT, Option.some.injEq] at h
          subst h
          exact hne)
        simp only [treeD] at this
        exact this
      by_cases hab : wordOf up = ab
      · rw [beq_iff_eq.mpr hab, if_pos rfl]
        simp only [q_disp, q_prS, q_pr0, q_C]
        intro z hz
        refine ⟨.inr "rise", rfl, .inr "fall", rfl, ust_same, by simp only [List.length_cons, List.length_nil]; omega, by decide +kernel, ?_⟩
        rw [ust_ust]
        refine dix_words ust_same ?_
        have hpz : p ≠ z := fun e => by rw [e, ust_same] at hz; cases hz
        have hz0 : S z = none := by
          cases h : S z with
          | none => rfl
          | some o =>
            have := hK1 z o (Ne.symm hpz) h
            rw [ust_ne (Ne.symm hpz), this] at hz; cases hz
        have h := rest (!up) (ust (ust S1 p (.lst (bagD c2 r2 k2))) z (.dK [((.inr "rise" : Key), D.str "fall"), (.inr "fall", D.str "rise")])) (fun e => by
          rw [← hab] at e
          have := wordOf_inj e
          cases up <;> cases this) (by rw [ust_ne hpz, ust_same]) (kp_new (kp_bag hK1) hz0)
        exact h
      · rw [beq_eq_false_iff_ne.mpr hab, if_neg (by decide)]
        exact rest up (ust S1 p (.lst (bagD c2 r2 k2))) hab ust_same (kp_bag hK1)
    have hKr : Kp S S p := fun a o _ h => h
    by_cases h4 : m < 4
    · simp only [rvLt, q_I0, q_kB]
      rw [if_pos (decide_eq_true (by omega))]
      exact run c r k S hS (hb.mono (by omega)) hKr
    · simp only [rvLt, q_I0, q_kB]
      rw [if_neg (by rw [decide_eq_true_eq]; omega)]
      refine q_takeI hS hb (by omega) (by omega) (by omega) fun c1 r1 k1 d hb1 d0 d1 => ?_
      simp only [q_I0, q_kB]
      split
      · exact run c1 r1 k1 _ ust_same hb1 (kp_bag hKr)
      · -- a shape
        have em : ∃ mm : Nat, (if (7 : Int) < (m : Int) then (7 : Int) else (m : Int)) = mm ∧ 4 ≤ mm ∧ mm ≤ m ∧ mm ≤ 7 := by
          by_cases h7 : (7 : Int) < m
          · exact ⟨7, if_pos h7, by omega, by omega, by omega⟩
          · exact ⟨m, if_neg h7, by omega, by omega, by omega⟩
        obtain ⟨mm, em, mm4, mmm, mm7⟩ := em
        rw [em]
        refine ⟨p, c1, r1, k1, N + 1, mm, rfl, mm4, by omega, ust_same, hb1, by omega, fun c2 r2 k2 sh hb2 hu hsl => ?_⟩
        rw [ust_ust]
        simp only [q_lenI, q_repO]
        have hl4 := hu.len
        refine ⟨sz, by omega, by omega, by rw [sizeLine_eq]; simp only [List.length_cons, List.length_nil]; omega, fun z hz => ⟨sz, ?_⟩⟩
        have ez : (List.replicate ((sh.length : Nat) : Int).toNat [D.int 1]).flatten = natsD (List.replicate sh.length 1) := by
          rw [show ((sh.length : Nat) : Int).toNat = sh.length by omega]
          generalize sh.length = x
          induction x with
          | zero => rfl
          | succ x ih => rw [List.replicate_succ, List.replicate_succ, List.flatten_cons, ih]; rfl
        rw [ez]
        have hpz : p ≠ z := fun e => by rw [e, ust_same] at hz; cases hz
        have hz0 : S z = none := by rwa [ust_ne (Ne.symm hpz)] at hz
        refine tree_tail (S0 := S) (kk := sh.length) (n := n) (N := N + 1 + 50) (nd := [D.str "shape", tupI sh]) hpz hz0 (kp_new (kp_bag hKr) hz0) (by rw [ust_ne hpz, ust_same]) ust_same hb2 (by omega) (by omega) hmn hm90 (by omega) (by simp) fun c' r' k' ps b1 b2 b3 b4 b5 => ?_
        have := q c' r' k' (.shp sh ps) (b1.mono (by omega)) (by simp only [WfT]; exact ⟨hu, by omega, b2.symm, b3⟩) (by simp only [sizeT]; exact b4) (fun u h => by simp only [headT] at h; cases h)
        simp only [treeD] at this
        exact this
end VL
namespace VL
open PySem PySem.Spec PyProof.Rows L2
theorem q_eqO {S : Own} {Q : KE} {g : Bool → Bool} {p : Addr} {xs : List D} {y : D} (h : S p = some (.lst xs)) : rvEqv g (.ref p) y S Q = rvEqv g (.lst xs) y S Q := by
  unfold rvEqv
  rw [vw_own h]
  rfl
end VL
namespace VL
open PySem PySem.Spec PyProof.Rows L2
def tvOwE (T : TAv) : TIw := fun ρ S Q => T ρ S fun ds S1 => ∃ p xs, ds = [.ref p] ∧ S1 p = some (.lst xs) ∧ Q (enumD 0 xs) (fun S => S p = some (.lst xs)) S1
theorem q_owE {T : TAv} {ρ : VS} {S : Own} {Q : List D → (Own → Prop) → Own → Prop} : tvOwE T ρ S Q = T ρ S (fun ds S1 => ∃ p xs, ds = [.ref p] ∧ S1 p = some (.lst xs) ∧ Q (enumD 0 xs) (fun S => S p = some (.lst xs)) S1) := rfl
end VL
namespace VL
open PySem PySem.Spec PyProof.Rows L2
def at0 (l : List Int) (i : Nat) : Int := l.getD i 0
def goesOn (sh rw : List Int) (P : List Nat) (x : Nat) : Bool := (List.range P.length).all fun k => decide (at0 sh k < at0 sh P.length) == decide (at0 rw (P.getD k 0) < at0 rw x)
/-- rising places from x on, below n: there is room for them -/
theorem inc_room : ∀ {E : List Nat} {x n : Nat}, E.Pairwise (· < ·) → (∀ y ∈ E, y < n) → (∀ y ∈ E, x ≤ y) → E ≠ [] → E.length + x ≤ n
  | [e], x, n, _, h, hx, _ => by
    have := h e (by simp)
    have := hx e (by simp)
    simp; omega
  | e :: e2 :: E, x, n, hp, h, hx, _ => by
    have hp' := List.pairwise_cons.mp hp
    have h1 := hx e (by simp)
    have := inc_room (E := e2 :: E) (x := e + 1) (n := n) hp'.2 (fun y hy => h y (by simp [hy])) (fun y hy => hp'.1 y hy) (by simp)
    simp only [List.length_cons] at *
    omega
end VL
namespace VL
open PySem PySem.Spec PyProof.Rows L2
theorem natsD_ints (P : List Nat) : natsD P = (P.map fun n : Nat => (n : Int)).map D.int := by unfold natsD; rw [List.map_map]; rfl
theorem natsD_length (P : List Nat) : (natsD P).length = P.length := by unfold natsD; rw [List.length_map]
theorem q_ixA {S : Own} {Q : KE} {ns : List Int} {j : Nat} (h : j < ns.length) : rvIx (tupI ns) (.int j) S Q = Q (.int (at0 ns j)) S := by
  refine q_ixI (by omega) ?_
  rw [show ((j : Nat) : Int).toNat = j by omega]
  unfold at0
  rw [List.getD_eq_getElem?_getD, List.getElem?_eq_getElem h]
  rfl
theorem q_while {Tc : TTv} {Tb : TSv} {Dv : EndsV} {ρ : VS} {S : Own} : tvWhile Tc Tb Dv ρ S = ∃ n, whileV Tc Tb Dv n ρ S := rfl
theorem q_whileS {Tc : TTv} {Tb : TSv} {Dv : EndsV} {n : Nat} {ρ : VS} {S : Own} : whileV Tc Tb Dv (n + 1) ρ S = Tc ρ S (fun b S1 => if b = true then Tb { nx := whileV Tc Tb Dv n, ct := whileV Tc Tb Dv n, bk := Dv.nx, rt := Dv.rt } ρ S1 else Dv.nx ρ S1) := rfl
theorem q_popO {S : Own} {Q : KE} {p : Addr} {xs : List D} {d : D} (hS : S p = some (.lst (xs ++ [d]))) : rvPop (.ref p) [] S Q = Q d (ust S p (.lst xs)) := by
  simp only [rvPop, ownL, hS]
  rw [List.length_append, List.length_singleton, Nat.add_sub_cancel, List.getElem?_append_right (Nat.le_refl _)]
  simp
end VL
namespace VL
open PySem PySem.Spec PyProof.Rows L2
def firstP (P : List Nat) : Nat := match P.getLast? with
  | none => 0
  | some x => x + 1
def nextW (sh rw : List Int) (P : List Nat) : List (List Nat) := ((((List.range (rw.length - firstP P)).map fun j => firstP P + j).filter fun x => goesOn sh rw P x)).map fun x => P ++ [x]
def ways (sh rw : List Int) : Nat → List (List Nat)
  | 0 => [[]]
  | k + 1 => (ways sh rw k).flatMap (nextW sh rw)
end VL
namespace VL
open PySem PySem.Spec PyProof.Rows L2
def shapeL (ns : List Int) : List Int := ns.map fun x => 1 + ((ns.filter fun y => decide (y < x)).length : Int)
end VL
namespace VL
open PySem PySem.Spec PyProof.Rows L2
section
variable {X : Cx}
def rvIndex : D → RAv := fun x ds S Q => match (lstD (vw S x)).bind intsD, ds with
  | some ns, [.int i] => i ∈ ns ∧ Q (.int (ns.idxOf i : Nat)) S
  | _, _ => False
theorem m_index (hu : X.A.units + 200 < cLine) : MtR X "list.index" (upM X.K rvIndex) := mtR_imp mt_index fun x xs H Q ⟨Z, S, dx, ds, Qv, m, rx, rs, h, b⟩ => by
  unfold rvIndex at h
  split at h
  · rename_i ns i e
    obtain ⟨hi, h⟩ := h
    cases q : lstD (vw S dx) with
    | none => rw [q] at e; cases e
    | some ys =>
      rw [q] at e
      dsimp only [Option.bind] at e
      obtain ⟨a, vs, rfl, h1, h2⟩ := lst_of m rx q
      rw [intsD_of e] at h2
      rw [rps_ints h2] at h1
      obtain ⟨v, rfl, rv⟩ := one_rps rs
      simp only [Rp] at rv
      subst rv
      have hlt := List.idxOf_lt_length_of_mem hi
      refine ⟨a, ns.map V.int, .int i, ns.idxOf i, .int i, rfl, rfl, h1, rfl, ?_, ?_, ?_, ?_, b _ _ _ _ .refl m (by simp only [Rp]) h⟩
      · rw [List.all_eq_true]
        intro x hx
        obtain ⟨y, _, rfl⟩ := List.mem_map.mp hx
        rfl
      · rw [List.getElem?_map, List.getElem?_eq_getElem hlt, List.getElem_idxOf]; rfl
      · simp [eqV]
      · intro m' z' hm hz
        rw [List.getElem?_map] at hz
        cases hx : ns[m']? with
        | none => rw [hx] at hz; cases hz
        | some x =>
          rw [hx] at hz
          cases hz
          have hne : x ≠ i := fun e => by
            subst e
            have := List.not_of_lt_findIdx (p := fun y => y == x) (xs := ns) (i := m') (by exact hm)
            obtain ⟨hl, he⟩ := List.getElem?_eq_some_iff.mp hx
            rw [he] at this
            simp at this
          simp [eqV, hne]
  · exact h.elim
end
theorem q_indexL {S : Own} {Q : KE} {ns : List Int} {i : Int} : rvIndex (.lst (ns.map D.int)) [.int i] S Q = (i ∈ ns ∧ Q (.int (ns.idxOf i : Nat)) S) := by
  simp only [rvIndex, vw, lstD, Option.bind, intsD_map]
def rk (ns : List Int) (x : Int) : Nat := (ns.filter fun y => decide (y < x)).length
theorem rk_lt {ns : List Int} {x y : Int} (hx : x ∈ ns) : rk ns x < rk ns y ↔ x < y := by
  unfold rk
  rw [← List.countP_eq_length_filter, ← List.countP_eq_length_filter]
  constructor
  · intro h
    apply Decidable.byContradiction
    intro hn
    have : ns.countP (fun z => decide (z < y)) ≤ ns.countP (fun z => decide (z < x)) := List.countP_mono_left fun z _ hz => by
      have := of_decide_eq_true hz
      exact decide_eq_true (by omega)
    omega
  · intro h
    have hp := List.perm_cons_erase hx
    rw [hp.countP_eq, hp.countP_eq, List.countP_cons, List.countP_cons]
    have h1 : decide (x < x) = false := decide_eq_false (by omega)
    have h2 : decide (x < y) = true := decide_eq_true h
    rw [h1, h2]
    have : (ns.erase x).countP (fun z => decide (z < x)) ≤ (ns.erase x).countP (fun z => decide (z < y)) := List.countP_mono_left fun z _ hz => by
      have := of_decide_eq_true hz
      exact decide_eq_true (by omega)
    simp only [Bool.false_eq_true, if_false, if_true]
    omega
theorem shapeL_eq (ns : List Int) : shapeL ns = ns.map fun x => 1 + (rk ns x : Int) := rfl
theorem shapeL_length (ns : List Int) : (shapeL ns).length = ns.length := by rw [shapeL_eq, List.length_map]
theorem shape_congr {α : Type} {l : List α} {f g : α → Int} (h : ∀ x ∈ l, ∀ y ∈ l, (f x < f y ↔ g x < g y)) : shapeL (l.map f) = shapeL (l.map g) := by
  rw [shapeL_eq, shapeL_eq, List.map_map, List.map_map]
  apply List.map_congr_left
  intro a ha
  simp only [Function.comp]
  congr 2
  unfold rk
  rw [List.filter_map, List.filter_map, List.length_map, List.length_map]
  congr 1
  apply List.filter_congr
  intro b hb
  simp only [Function.comp]
  exact decide_eq_decide.mpr (h b hb a ha)
theorem at0_get {ns : List Int} {i : Nat} (h : i < ns.length) : at0 ns i = ns[i] := by
  unfold at0; rw [List.getD_eq_getElem?_getD, List.getElem?_eq_getElem h]; rfl
theorem at0_mem {ns : List Int} {i : Nat} (h : i < ns.length) : at0 ns i ∈ ns := by rw [at0_get h]; exact List.getElem_mem h
theorem at0_map {ns : List Int} {f : Int → Int} {i : Nat} (h : i < ns.length) : at0 (ns.map f) i = f (at0 ns i) := by
  rw [at0_get h, at0_get (by rw [List.length_map]; exact h), List.getElem_map]
theorem shape_at0 {ns : List Int} {i : Nat} (h : i < ns.length) : at0 (shapeL ns) i = 1 + (rk ns (at0 ns i) : Int) := by rw [shapeL_eq, at0_map h]
theorem shape_lt {ns : List Int} {i j : Nat} (hi : i < ns.length) (hj : j < ns.length) : at0 (shapeL ns) i < at0 (shapeL ns) j ↔ at0 ns i < at0 ns j := by
  rw [shape_at0 hi, shape_at0 hj]
  have := rk_lt (y := at0 ns j) (at0_mem hi)
  omega
theorem nd_at0 {ns : List Int} (h : ns.Nodup) {i j : Nat} (hi : i < ns.length) (hj : j < ns.length) (he : at0 ns i = at0 ns j) : i = j := by
  rw [at0_get hi, at0_get hj] at he
  have hp := List.pairwise_iff_getElem.mp h
  rcases Nat.lt_trichotomy i j with hl | hl | hl
  · exact absurd he (hp i j hi hj hl)
  · exact hl
  · exact absurd he.symm (hp j i hj hi hl)
theorem nodup_at0 {ns : List Int} (h : ∀ i j, i < j → j < ns.length → at0 ns i ≠ at0 ns j) : ns.Nodup := by
  rw [List.Nodup, List.pairwise_iff_getElem]
  intro i j hi hj hij
  have := h i j hij hj
  rwa [at0_get hi, at0_get hj] at this
theorem shape_nodup {ns : List Int} (h : ns.Nodup) : (shapeL ns).Nodup := nodup_at0 fun i j hij hj e => by
  rw [shapeL_length] at hj
  have h1 := shape_lt (ns := ns) (i := i) (j := j) (by omega) hj
  have h2 := shape_lt (ns := ns) (i := j) (j := i) hj (by omega)
  have h3 : at0 ns i ≠ at0 ns j := fun e2 => by have := nd_at0 h (by omega) hj e2; omega
  omega
/-- where a row stands in another, as a function -/
structure StF (sh w : List Int) (e : Nat → Nat) : Prop where
  inc : ∀ a b, a < b → b < sh.length → e a < e b
  lt : ∀ a, a < sh.length → e a < w.length
  like : ∀ a b, a < sh.length → b < sh.length → (at0 sh a < at0 sh b ↔ at0 w (e a) < at0 w (e b))
theorem getD_some {E : List Nat} {a : Nat} (h : a < E.length) : E[a]? = some (E.getD a 0) := by
  rw [List.getD_eq_getElem?_getD, List.getElem?_eq_getElem h]; rfl
theorem getD_mem {E : List Nat} {a : Nat} (h : a < E.length) : E.getD a 0 ∈ E := List.mem_of_getElem? (getD_some h)
theorem inc_getD {E : List Nat} (h : E.Pairwise (· < ·)) {a b : Nat} (hab : a < b) (hb : b < E.length) : E.getD a 0 < E.getD b 0 := by
  have := List.pairwise_iff_getElem.mp h a b (by omega) hb hab
  rw [List.getD_eq_getElem?_getD, List.getD_eq_getElem?_getD, List.getElem?_eq_getElem hb, List.getElem?_eq_getElem (by omega)]
  exact this
theorem at0_mapE {E : List Nat} {w : List Int} {a : Nat} (h : a < E.length) : at0 (E.map (at0 w)) a = at0 w (E.getD a 0) := by
  unfold at0; rw [List.getD_eq_getElem?_getD, List.getElem?_map, getD_some h]; rfl
def overL (ns : List Int) : List Int := ns.map fun i => (ns.length : Int) + 1 - i
theorem over_length (ns : List Int) : (overL ns).length = ns.length := by simp [overL]
theorem over_upto (n : Nat) : (upto n).map (fun i => (n : Int) + 1 - i) = (upto n).reverse := by
  apply List.ext_getElem?
  intro k
  by_cases hk : k < n
  · rw [List.getElem?_map, upto_get hk, List.getElem?_reverse (by rw [upto_length]; exact hk), upto_length, upto_get (by omega)]
    show some ((n : Int) + 1 - ((k : Int) + 1)) = some _
    congr 1; omega
  · rw [List.getElem?_eq_none (by rw [List.length_map, upto_length]; omega), List.getElem?_eq_none (by rw [List.length_reverse, upto_length]; omega)]
theorem over_row {ns : List Int} (h : Row ns) : Row (overL ns) := by
  unfold Row
  rw [over_length]
  refine (h.map fun i => (ns.length : Int) + 1 - i).trans ?_
  rw [over_upto]
  exact List.reverse_perm _
end VL
namespace VL
open PySem PySem.Spec PyProof.Rows L2
local macro_rules | `(tactic| walk_at "vs") => `(tactic| simp only [q_var0, q_varS, q_sat0, q_satS, q_C, q_op, q_un, q_test, q_kB, q_not, q_and, q_or, q_ifE, q_andV, q_orV, q_notV, q_chain, q_nil, q_cons, q_tup, q_lst, q_lstO, q_CB, q_BM, q_call, q_seq, q_next, q_set, q_drop, q_ret, q_if, q_setIx, q_stD, q_nx, q_rt, q_endr, q_endn, q_I, q_I0, q_addI, q_addT, q_addL, q_neg, q_ixT atI_0, q_ixT atI_1, q_ixT atI_2, q_lenT, q_lenL, q_lenS, q_int1, q_intB, q_I1, q_II, q_tupT, q_tupL, q_rgL, q_lc, q_lcO, q_r1, q_r2, q_kR1, q_kR2, q_sq, q_kSqT, q_kSqL, q_kSqQ, q_isi, q_rev, q_revT, q_revL, q_wip0, q_wipS, q_unst0, q_unstS, q_yes, q_eqI, q_bls, q_sum, q_rcT, q_rcL, if_true, q_for, q_enum, q_kEnT, q_kEnL, q_repO, q_rep, q_let, q_bind, q_slv, q_noPart, q_part, q_kP, q_slT, q_slL, q_listT, q_listL, q_eqB, q_rgL3, q_lcW, q_forW, q_ow, q_owE,
  List.map_cons, List.map_nil, List.cons_append, List.nil_append, List.length_cons, List.length_nil, List.replicate])
theorem idx_sorted {x : Int} : ∀ {l : List Int}, l.Pairwise (· ≤ ·) → x ∈ l → l.idxOf x = rk l x
  | [], _, h => absurd h List.not_mem_nil
  | y :: t, hp, h => by
    have hp' := List.pairwise_cons.mp hp
    by_cases e : y = x
    · subst e
      rw [List.idxOf_cons_self]
      unfold rk
      rw [List.filter_eq_nil_iff.mpr]
      · rfl
      · intro z hz
        rw [decide_eq_true_eq]
        rcases List.mem_cons.mp hz with rfl | hz
        · omega
        · have := hp'.1 z hz; omega
    · have hx : x ∈ t := by
        rcases List.mem_cons.mp h with h | h
        · exact absurd h.symm e
        · exact h
      have := hp'.1 x hx
      have eb : (y == x) = false := by simpa using e
      rw [List.idxOf_cons, eb, cond_false, idx_sorted hp'.2 hx]
      unfold rk
      rw [List.filter_cons_of_pos (by rw [decide_eq_true_eq]; omega)]
      rfl
theorem rk_perm {l m : List Int} (h : l.Perm m) (x : Int) : rk l x = rk m x := (h.filter _).length_eq
theorem srt_idx {ns : List Int} {x : Int} (h : x ∈ ns) : (srt ns).idxOf x = rk ns x := by
  rw [idx_sorted (srt_sorted ns) ((srt_perm ns).mem_iff.mpr h), rk_perm (srt_perm ns)]
def fromD (lo hi : Int) : D → Bool
  | .int i => decide (lo ≤ i ∧ i ≤ hi)
  | _ => false
def F_p_is_from : FS := fun ds S Q => ∃ w n d, ∃ lo hi : Int, ds = [d, .int lo, .int hi] ∧ ThD w n d ∧ Q (.bl (fromD lo hi d)) S
def T_p_is_from : TSv := (tvRet (tvAndV (tvCall F_p_is_whole (tvCons (tvVar 0) tvNil)) (tvChain rvLe rvLe (tvVar 1) (tvVar 0) (tvVar 2))))
theorem t_p_is_from : ∀ ds S Qv, F_p_is_from ds S Qv → T_p_is_from (endsV Qv) (stD 3 ds) S := by
  rintro ds S Qv ⟨w, n, d, lo, hi, rfl, hd, q⟩
  have hv : ∀ S, vw S d = d := fun S => vw_no hd.noref
  obtain ⟨tn, htn⟩ := hd.ty
  unfold T_p_is_from
  walk_at "vs"
  refine ⟨d, tn, rfl, by rw [hv]; exact htn, ?_⟩
  rw [whole_eq d tn (by rw [hv]; exact htn) hd.noref]
  simp only [q_kB]
  cases e : wholeD d with
  | false =>
    rw [if_neg (by decide)]
    have : fromD lo hi d = false := by cases d <;> simp [wholeD] at e <;> rfl
    rw [this] at q
    exact fin_of q
  | true =>
    rw [if_pos rfl]
    cases d <;> simp [wholeD] at e
    rename_i i
    simp only [fromD] at q
    simp only [rvLe, q_I0, q_kB]
    by_cases h1 : lo ≤ i
    · rw [decide_eq_true h1]
      by_cases h2 : i ≤ hi
      · rw [decide_eq_true ⟨h1, h2⟩] at q
        rw [decide_eq_true h2]
        exact fin_of q
      · rw [decide_eq_false (fun h => h2 h.2)] at q
        rw [decide_eq_false h2]
        exact fin_of q
    · rw [decide_eq_false (fun h => h1 h.1)] at q
      rw [decide_eq_false h1]
      exact fin_of q
def F_p_closed_up : FS := fun ds S Q => ∃ d, ∃ ns : List Int, ds = [d] ∧ (d = .lst (ns.map D.int) ∨ d = tupI ns) ∧ ns.length ≤ 1000 ∧ Q (tupI (shapeL ns)) S
def T_p_closed_up : TSv := (tvSeq (tvSet 1 (tvCB (rvSort kLst) (tvCons (tvVar 0) tvNil)))
  (tvRet (tvCB rvTuple (tvCons (tvLc (tvSq (tvVar 0)) (.name 2) ttYes (tvOp rvAdd (tvBMr rcL rvIndex (tvVar 1) (tvCons (tvVar 2) tvNil)) (tvC (.int 1))) [2]) tvNil))))
theorem t_p_closed_up : ∀ ds S Qv, F_p_closed_up ds S Qv → T_p_closed_up (endsV Qv) (stD 3 ds) S := by
  rintro ds S Qv ⟨d, ns, rfl, hd, hl, q⟩
  have hsq : ∀ S, seqD (vw S d) = some (ns.map D.int) := fun S => by rcases hd with rfl | rfl <;> rfl
  unfold T_p_closed_up
  walk_at "vs"
  refine q_sort (hsq _) (sz (by omega)) ?_
  have hsl : (srt ns).length = ns.length := (srt_perm ns).length_eq
  simp only [kLst]
  have key : ∀ (Q2 : List D → Own → Prop), Q2 ((shapeL ns).map D.int) S → compV (.name 2) ttYes (tvOp rvAdd (tvBMr rcL rvIndex (tvVar 1) (tvCons (tvVar 2) tvNil)) (tvC (.int 1))) [some d, some (.lst ((srt ns).map D.int)), none] (ns.map D.int) S Q2 := by
    intro Q2 q2
    refine comp_map (fun d => match d with | .int x => .int (1 + (rk ns x : Int)) | _ => .non) _ _ (fun e he => ⟨_, bind_name, fun Q' q' => ?_⟩) ?_
    · obtain ⟨x, hx, rfl⟩ := List.mem_map.mp he
      walk_at "vs"
      refine ⟨trivial, ?_⟩
      rw [q_indexL]
      refine ⟨(srt_perm ns).mem_iff.mpr hx, ?_⟩
      rw [srt_idx hx]
      simp only [q_addI]
      rw [Int.add_comm]
      exact q'
    · rw [List.map_map]
      rw [shapeL_eq, List.map_map] at q2
      exact q2
  rcases hd with rfl | rfl
  · refine ⟨by rw [List.length_map]; exact sz (by omega), key _ ?_⟩
    exact fin_of q
  · unfold tupI at key ⊢
    walk_at "vs"
    refine ⟨by rw [List.length_map]; exact sz (by omega), key _ ?_⟩
    exact fin_of q
def incB : List Int → Bool
  | x :: y :: r => decide (x < y) && incB (y :: r)
  | _ => true
def placesD (n : Nat) : D → Bool
  | .tup xs => !xs.isEmpty && (xs.all (fromD 0 ((n : Int) - 1)) && match intsD xs with
    | some ns => incB ns
    | none => false)
  | _ => false
def F_p_are_places : FS := fun ds S Q => ∃ w n d, ∃ rw : List Int, ds = [tupI rw, d] ∧ ThD w n d ∧ w ≤ 1000 ∧ n ≤ 100 ∧ rw.length ≤ 1000 ∧ Q (.bl (placesD rw.length d)) S
def T_p_are_places : TSv := (tvSeq (tvIf (tvOr (tvNot (tvTest (tvIsi isTup (tvVar 1)))) (tvOr (tvTest (tvOp rvEq (tvVar 1) (tvTup tvNil))) (tvNot (tvTest (tvCB (rvBls fun bs => bs.all id) (tvCons (tvLc (tvSq (tvVar 1)) (.name 2) ttYes (tvCall F_p_is_from (tvCons (tvVar 2) (tvCons (tvC (.int 0)) (tvCons (tvOp rvSub (tvCB rvLen (tvCons (tvVar 0) tvNil)) (tvC (.int 1))) tvNil)))) [2]) tvNil))))))
  (tvRet (tvC (.bl false)))
  tvNext)
  (tvRet (tvCB (rvBls fun bs => bs.all id) (tvCons (tvLc (tvZip (tvCons (tvVar 1) (tvCons (tvSl rvSl (tvVar 1) (tvPart (tvC (.int 1))) tvNoPart) tvNil))) (.tup [(.name 2), (.name 3)]) ttYes (tvOp rvLt (tvVar 2) (tvVar 3)) [2, 3]) tvNil))))
theorem fromD_int {lo hi : Int} {d : D} (h : fromD lo hi d = true) : ∃ i, d = .int i ∧ lo ≤ i ∧ i ≤ hi := by
  cases d <;> simp [fromD] at h
  exact ⟨_, rfl, h⟩
theorem from_ints {lo hi : Int} : ∀ {xs : List D}, xs.all (fromD lo hi) = true → ∃ ns : List Int, xs = ns.map D.int ∧ ∀ i ∈ ns, lo ≤ i ∧ i ≤ hi
  | [], _ => ⟨[], rfl, fun i h => absurd h List.not_mem_nil⟩
  | x :: xs, h => by
    rw [List.all_cons, Bool.and_eq_true] at h
    obtain ⟨i, rfl, hi⟩ := fromD_int h.1
    obtain ⟨ns, rfl, hn⟩ := from_ints h.2
    exact ⟨i :: ns, rfl, fun j hj => by
      rcases List.mem_cons.mp hj with rfl | hj
      · exact hi
      · exact hn j hj⟩
theorem inc_all : ∀ ns : List Int, ((zipD (ns.map D.int) ((ns.map D.int).drop 1)).map fun d => match d with | .tuq [.int a, .int b] => D.bl (decide (a < b)) | _ => .non) = (ns.zip (ns.drop 1)).map (fun p => D.bl (decide (p.1 < p.2)))
  | [] => rfl
  | [_] => rfl
  | x :: y :: r => by
    have := inc_all (y :: r)
    simp only [List.map_cons, List.drop_succ_cons, List.drop_zero, zipD, List.zip_cons_cons, List.cons.injEq, true_and] at this ⊢
    exact this
theorem inc_zip : ∀ ns : List Int, ((ns.zip (ns.drop 1)).map fun p => decide (p.1 < p.2)).all id = incB ns
  | [] => rfl
  | [_] => rfl
  | x :: y :: r => by
    have := inc_zip (y :: r)
    simp only [List.map_cons, List.drop_succ_cons, List.drop_zero, List.zip_cons_cons, List.all_cons, id, incB] at this ⊢
    rw [this]
theorem t_p_are_places : ∀ ds S Qv, F_p_are_places ds S Qv → T_p_are_places (endsV Qv) (stD 4 ds) S := by
  rintro ds S Qv ⟨w, n, d, rw, rfl, hd, hw, hn, hr, q⟩
  have hv : ∀ S, vw S d = d := fun S => vw_no hd.noref
  obtain ⟨tn, htn⟩ := hd.ty
  unfold T_p_are_places
  walk_at "vs"
  refine ⟨tn, by rw [hv]; exact htn, ?_⟩
  rw [hv]
  cases ht : isTup d with
  | false =>
    have e : placesD rw.length d = false := by cases d <;> first | rfl | (simp [isTup] at ht)
    rw [e] at q
    exact fin_of q
  | true =>
    obtain ⟨xs, rfl⟩ := hd.isTup ht
    obtain ⟨m, rfl, hl, hx⟩ := hd.kids
    simp only [Bool.not_true, Bool.false_eq_true, if_false]
    walk_at "vs"
    refine ⟨Nat.zero_le _, ?_⟩
    simp only [rvEq, q_ne0 hd (by omega), q_kB]
    by_cases h0 : xs = []
    · subst h0
      simp only [decide_true, if_true]
      exact fin_of q
    · simp only [decide_eq_false h0, Bool.false_eq_true, if_false]
      refine ⟨sz (by omega), ?_⟩
      refine comp_map (fun d => .bl (fromD 0 ((rw.length : Int) - 1) d)) _ _ (fun e he => ⟨_, bind_name, fun Q' q' => ?_⟩) ?_
      · walk_at "vs"
        simp only [q_lenI, rvSub, q_I0]
        exact ⟨w, m, e, 0, _, rfl, hx e he, q'⟩
      · have e1 : xs.map (fun d => D.bl (fromD 0 ((rw.length : Int) - 1) d)) = (xs.map (fromD 0 ((rw.length : Int) - 1))).map D.bl := by rw [List.map_map]; rfl
        rw [e1]
        simp only [q_bls, q_kB]
        have e2 : (xs.map (fromD 0 ((rw.length : Int) - 1))).all id = xs.all (fromD 0 ((rw.length : Int) - 1)) := by rw [List.all_map]; rfl
        rw [e2]
        have hne : xs.isEmpty = false := by cases xs with | nil => exact absurd rfl h0 | cons => rfl
        simp only [placesD, hne, Bool.not_false, Bool.true_and] at q
        cases ha : xs.all (fromD 0 ((rw.length : Int) - 1)) with
        | false =>
          rw [ha] at q
          exact fin_of q
        | true =>
          rw [ha] at q
          obtain ⟨ns, rfl, hns⟩ := from_ints ha
          simp only [intsD_map, Bool.true_and] at q
          simp only [Bool.not_true, Bool.false_eq_true, if_false]
          have hc : cutD (ns.map D.int) (some 1) none = (ns.map D.int).drop 1 := cut_from (by omega)
          simp only [q_zip, q_cons, q_nil, q_var0, q_varS, q_slv, q_part, q_noPart, q_C, q_kP, q_slT, hc, q_lc]
          refine ⟨_, rfl, by rw [zipD_length, List.length_map]; exact sz (by rw [List.length_map] at hl; omega), ?_⟩
          refine comp_map (fun d => match d with | .tuq [.int a, .int b] => .bl (decide (a < b)) | _ => .non) _ _ (fun e he => ?_) ?_
          · obtain ⟨i, hi, e0⟩ := List.mem_iff_getElem.mp he
            obtain ⟨a, b, h1, h2, rfl⟩ := zipD_get _ _ i e (by rw [List.getElem?_eq_getElem hi, e0])
            obtain ⟨x, _, rfl⟩ := List.mem_map.mp (List.mem_of_getElem? h1)
            obtain ⟨y, _, rfl⟩ := List.mem_map.mp (List.mem_of_mem_drop (List.mem_of_getElem? h2))
            refine ⟨_, rfl, fun Q' q' => ?_⟩
            simp only [sat, wip, unst]
            walk_at "vs"
            exact q'
          · rw [inc_all]
            have e3 : (ns.zip (ns.drop 1)).map (fun p => D.bl (decide (p.1 < p.2))) = ((ns.zip (ns.drop 1)).map (fun p => decide (p.1 < p.2))).map D.bl := by rw [List.map_map]; rfl
            rw [e3]
            simp only [q_bls, inc_zip]
            exact fin_of q
theorem incB_iff : ∀ {ns : List Int}, incB ns = true ↔ ns.Pairwise (· < ·)
  | [] => by simp [incB]
  | [x] => by simp [incB]
  | x :: y :: r => by
    have ih := incB_iff (ns := y :: r)
    simp only [incB, Bool.and_eq_true, decide_eq_true_eq]
    rw [ih, List.pairwise_cons (a := x)]
    constructor
    · rintro ⟨h1, h2⟩
      refine ⟨fun z hz => ?_, h2⟩
      rcases List.mem_cons.mp hz with rfl | hz
      · exact h1
      · have := (List.pairwise_cons.mp h2).1 z hz; omega
    · rintro ⟨h1, h2⟩
      exact ⟨h1 y (by simp), h2⟩
theorem places_nats {n : Nat} {P : List Nat} (h0 : P ≠ []) (hi : P.Pairwise (· < ·)) (hl : ∀ x ∈ P, x < n) : placesD n (.tup (natsD P)) = true := by
  have hne : (natsD P).isEmpty = false := by cases P with | nil => exact absurd rfl h0 | cons => rfl
  have ha : (natsD P).all (fromD 0 ((n : Int) - 1)) = true := by
    rw [List.all_eq_true]
    intro x hx
    obtain ⟨y, hy, rfl⟩ := List.mem_map.mp hx
    have := hl y hy
    exact decide_eq_true ⟨by omega, by omega⟩
  have hint : intsD (natsD P) = some (P.map fun n : Nat => (n : Int)) := by rw [natsD_ints, intsD_map]
  simp only [placesD, hne, ha, hint, Bool.not_false, Bool.true_and]
  rw [incB_iff, List.pairwise_map]
  exact hi.imp fun h => by omega
/-- the shape at places, where these are places -/
def F_p_shape_at : FS := fun ds S Q => ∃ rw P, ds = [tupI rw, .tup (natsD P)] ∧ P ≠ [] ∧ P.Pairwise (· < ·) ∧ (∀ x ∈ P, x < rw.length) ∧ rw.length ≤ 1000 ∧ Q (tupI (shapeL (P.map (at0 rw)))) S
def T_p_shape_at : TSv := (tvSeq (tvIf (tvNot (tvTest (tvCall F_p_are_places (tvCons (tvVar 0) (tvCons (tvVar 1) tvNil)))))
  tvNever
  tvNext)
  (tvRet (tvCall F_p_closed_up (tvCons (tvLc (tvSq (tvVar 1)) (.name 2) ttYes (tvOp rvIx (tvVar 0) (tvVar 2)) [2]) tvNil))))
theorem inc_len {n : Nat} {P : List Nat} (hi : P.Pairwise (· < ·)) (hl : ∀ x ∈ P, x < n) : P.length ≤ n := by
  cases P with
  | nil => exact Nat.zero_le _
  | cons p P =>
    have := inc_room (E := p :: P) (x := 0) hi hl (fun y _ => Nat.zero_le _) (by simp)
    omega
theorem thd_nats {n : Nat} {P : List Nat} (hn : P.length ≤ n) (hl : ∀ x ∈ P, x < n) : ThD n 1 (.tup (natsD P)) := .tup (by rw [natsD_length]; exact hn) fun x hx => by
  obtain ⟨y, hy, rfl⟩ := List.mem_map.mp hx
  have := hl y hy
  exact (show Int.natAbs _ ≤ _ by omega)
theorem t_p_shape_at : ∀ ds S Qv, F_p_shape_at ds S Qv → T_p_shape_at (endsV Qv) (stD 3 ds) S := by
  rintro ds S Qv ⟨rw, P, rfl, h0, hi, hl, hr, q⟩
  have hpl := inc_len hi hl
  unfold T_p_shape_at
  walk_at "vs"
  refine ⟨rw.length, 1, _, rw, rfl, thd_nats hpl hl, hr, by omega, hr, ?_⟩
  rw [places_nats h0 hi hl]
  simp only [q_kB, Bool.not_true, Bool.false_eq_true, if_false]
  refine ⟨by rw [natsD_length]; exact sz (by omega), ?_⟩
  refine comp_map (fun d => match d with | .int y => .int (at0 rw y.toNat) | _ => .non) _ _ (fun d hd => ⟨_, bind_name, fun Q' q' => ?_⟩) ?_
  · obtain ⟨y, hym, rfl⟩ := List.mem_map.mp hd
    walk_at "vs"
    rw [q_ixA (hl y hym)]
    exact q'
  · have e : (natsD P).map (fun d => match d with | .int y => D.int (at0 rw y.toNat) | _ => .non) = (P.map (at0 rw)).map D.int := by
      unfold natsD
      rw [List.map_map, List.map_map]
      rfl
    rw [e]
    exact ⟨_, _, rfl, .inl rfl, by rw [List.length_map]; omega, fin_of q⟩
end VL
namespace VL
open PySem PySem.Spec PyProof.Rows L2
def exNames : List Str := ["NoPlaces", "TooMany", "NoShelf", "NoNumber", "NoRow", "NoChain", "NoText", "NoSaying", "NoName", "NoDeed"]
def exWords : List Str := ["places", "many", "shelf", "number", "row", "chain", "text", "saying", "name", "deed"]
def refD (i : Nat) : D := .tup [.str "refused", .str (exWords.getD i "")]
/-- what the written part says of the error classes: each under RowError at R, which is a ValueError -/
def exRow (K : PySem.W.Frag) (cs : List Addr) (R C : Addr) : Bool :=
  PySem.W.excIn K C [.type "ValueError", .type "Exception", .type "BaseException", .type "object"] "ValueError.__new__" && (PySem.W.keepIn K (.ref C) && (decide (PySem.W.subIn K (.ref C) (.type "BaseException") = some true) &&
    (decide (PySem.W.typeIn K (.ref C) = some (.type "type")) && (decide (PySem.W.exmOne K (.ref C) (.ref R) = some true) && (decide (PySem.W.findIn K (.ref C) "__getattribute__" = some (some (.builtin "BaseException.__getattribute__"))) &&
    (decide (PySem.W.findIn K (.ref C) "__getattr__" = some none) && (decide (PySem.W.hasDictIn K C = true) && (decide (PySem.W.findIn K (.ref C) "__class__" = some (some (.builtin "object.__class__"))) &&
    (decide (PySem.W.specialIn K (.builtin "object.__class__") "__get__" = some (some (.builtin "getset_descriptor.__get__"))) && (decide (PySem.W.takesIn K (.builtin "object.__class__") = some true) &&
    (decide (PySem.W.mroIn K C (.type "object") = some true) && (decide (PySem.W.kitOne K (.ref C) (.type "ValueError") = some true) && cs.all fun D => decide (PySem.W.kitOne K (.ref C) (.ref D) = some (C == D))))))))))))))
def exTab (K : PySem.W.Frag) (cs : List Addr) (R : Addr) : Bool := decide cs.Nodup && cs.all fun C => exRow K cs R C
structure ExT (K : PySem.W.Frag) (mg : Str → Option Value) (cs : List Addr) (R : Addr) : Prop where
  len : cs.length = 10
  g : ∀ (i : Nat) (nm : Str) (C : Addr), exNames[i]? = some nm → cs[i]? = some C → mg nm = some (.ref C)
  gR : mg "RowError" = some (.ref R)
  ve : mg "ValueError" = none
  tab : exTab K cs R = true
section
variable {K : PySem.W.Frag} {mg : Str → Option Value} {cs : List Addr} {R : Addr}
theorem ExT.row (T : ExT K mg cs R) {C : Addr} (h : C ∈ cs) : exRow K cs R C = true := by
  have := T.tab
  unfold exTab at this
  rw [Bool.and_eq_true] at this
  exact List.all_eq_true.mp this.2 C h
theorem ExT.nd (T : ExT K mg cs R) : cs.Nodup := by
  have := T.tab
  unfold exTab at this
  rw [Bool.and_eq_true] at this
  exact of_decide_eq_true this.1
end
section
variable {X : Cx} {cs : List Addr} {R : Addr} {W : XK}
end
/-- what a def that may raise promises -/
abbrev FSX := List D → Own → KE → (Nat → Own → Prop) → Prop
def spX (K : PySem.W.Frag) (cs : List Addr) (F : FSX) : Sp := fun vs H Q E => ∃ Z S ds Qv We, Sim K H S Z ∧ Rps K H S Z ds vs ∧ F ds S Qv We ∧
  (∀ d v H' S', Ext H S H' S' → Sim K H' S' Z → Rp K H' S' Z d v → Qv d S' → Q v H') ∧ ∀ i C H' S', cs[i]? = some C → Ext H S H' S' → Sim K H' S' Z → We i S' → E (.ref C) none H'
structure CalX (P : Program) (w : World) (K : PySem.W.Frag) (mg : Str → Option Value) (base : Heap) (cs : List Addr) (k : Nat) (x : Str) (ps : List Str) (F : FSX) : Prop where
  ex : ∃ (f : Addr) (fd : FuncData), FnOk P w K mg base (L2.CX P w) k f fd ps (spX K cs F) ∧ mg x = some (.ref f) ∧ PySem.W.keepIn K (.ref f) = true ∧ Binds K fd ps []
theorem CalX.mono {P : Program} {w : World} {K : PySem.W.Frag} {mg : Str → Option Value} {base : Heap} {cs : List Addr} {k k' : Nat} {x : Str} {ps : List Str} {F : FSX} (C : CalX P w K mg base cs k x ps F) (h : k ≤ k') : CalX P w K mg base cs k' x ps F :=
  let ⟨f, fd, G, r⟩ := C.ex; ⟨f, fd, G.mono h, r⟩
section
variable {P : Program} {w : World} {K : PySem.W.Frag} {mg : Str → Option Value} {base : Heap} {cs : List Addr}
end
section
variable {X : Cx} {cs : List Addr} {R C a : Addr}
end
/-- the def _law_refusal, called with an error of class j that stands at a beside the heap -/
structure CalR (P : Program) (w : World) (K : PySem.W.Frag) (mg : Str → Option Value) (base : Heap) (cs : List Addr) (k : Nat) : Prop where
  ex : ∃ (f : Addr), mg "_law_refusal" = some (.ref f) ∧ PySem.W.keepIn K (.ref f) = true ∧
    ∀ (A : Around) (outer : List Env) (s : Shared) (H : Hp) (Q : VK) (E : XK) (a C : Addr) (j : Nat) (Z : Addr → Prop) (S : Own) (Qv : KE), L2H.RoomH k A → Env0 P w K mg base A outer s H → cs[j]? = some C →
      (∃ oe, s.heap.get? a = some oe ∧ oe.cls = .ref C ∧ oe.dict = none ∧ ∃ vs, oe.data = .fields vs) → H a = none → a ∉ frs outer → Sim K H S Z → Qv (refD j) S →
      (∀ d v H' S', Ext H S H' S' → Sim K H' S' Z → Rp K H' S' Z d v → Qv d S' → Q v H') → codeAny (model P w) A (.call (.ref f) ⟨[.ref a], []⟩) (CR CX0 outer P w H s Q E) s
theorem CalR.mono {P : Program} {w : World} {K : PySem.W.Frag} {mg : Str → Option Value} {base : Heap} {cs : List Addr} {k k' : Nat} (C : CalR P w K mg base cs k) (h : k ≤ k') : CalR P w K mg base cs k' :=
  let ⟨f, h1, h2, G⟩ := C.ex; ⟨f, h1, h2, fun A outer s H Q E a C j Z S Qv hr => G A outer s H Q E a C j Z S Qv (hr.mono h)⟩
section
variable {P : Program} {w : World} {K : PySem.W.Frag} {mg : Str → Option Value} {base : Heap} {cs : List Addr}
end
section
variable {X : Cx} {cs : List Addr} {R : Addr}
end
end VL
namespace VL
open PySem PySem.Spec PyProof.Rows L2
section
variable {X : Cx}
end
section
variable {X : Cx}
end
/-- a shape of distinct numbers is a row -/
theorem rk_len {ns : List Int} {x : Int} (hx : x ∈ ns) : rk ns x < ns.length := by
  unfold rk
  rw [List.length_filter_lt_length_iff_exists]
  exact ⟨x, hx, by simp⟩
theorem shape_row {ns : List Int} (h : ns.Nodup) : Row (shapeL ns) := by
  have hp := perm_of_sub (l := shapeL ns) (m := upto ns.length) (shape_nodup h) (fun x hx => by
    rw [shapeL_eq] at hx
    obtain ⟨y, hy, rfl⟩ := List.mem_map.mp hx
    have := rk_len hy
    exact mem_upto.mpr ⟨by omega, by omega⟩) (by rw [shapeL_length, upto_length]; exact Nat.le_refl _)
  unfold Row
  rw [shapeL_length]
  exact hp.symm
end VL
namespace VL
open PySem PySem.Spec PyProof.Rows L2
theorem shape_of_row {ns : List Int} (h : Row ns) : shapeL ns = ns := by
  rw [shapeL_eq]
  conv => rhs; rw [← List.map_id ns]
  apply List.map_congr_left
  intro x hx
  have hm := h.mem.mp hx
  have e1 : rk ns x = rk (upto ns.length) x := rk_perm h x
  have e2 : ∀ n : Nat, ∀ x : Int, 1 ≤ x → x ≤ n → (rk (upto n) x : Int) = x - 1 := by
    intro n
    induction n with
    | zero => intro x h1 h2; omega
    | succ n ih =>
      intro x h1 h2
      unfold rk
      rw [upto_succ, List.filter_append, List.length_append]
      by_cases hx : x ≤ n
      · have := ih x h1 hx
        unfold rk at this
        rw [List.filter_cons_of_neg (by rw [decide_eq_true_eq]; omega)]
        simp only [List.filter_nil, List.length_nil]
        omega
      · have hx2 : x = (n : Int) + 1 := by omega
        subst hx2
        rw [List.filter_eq_self.mpr (fun y hy => by
          have := mem_upto.mp hy
          exact decide_eq_true (by omega)), List.filter_cons_of_neg (by rw [decide_eq_true_eq]; omega), upto_length]
        simp
  have := e2 ns.length x hm.1 hm.2
  simp only [id]
  omega
end VL
namespace VL
open PySem PySem.Spec PyProof.Rows L2
def leP (a b : List Int) : Bool := decide (a.length < b.length ∨ (a.length = b.length ∧ a ≤ b))
def srtP (rows : List (List Int)) : List (List Int) := rows.mergeSort leP
theorem srtP_perm (rows : List (List Int)) : (srtP rows).Perm rows := List.mergeSort_perm _ _
theorem leP_trans {a b c : List Int} (h1 : leP a b = true) (h2 : leP b c = true) : leP a c = true := by
  unfold leP at *
  rw [decide_eq_true_eq] at *
  rcases h1 with h1 | ⟨h1, h1'⟩
  · rcases h2 with h2 | ⟨h2, _⟩
    · exact .inl (by omega)
    · exact .inl (by omega)
  · rcases h2 with h2 | ⟨h2, h2'⟩
    · exact .inl (by omega)
    · exact .inr ⟨by omega, List.le_trans h1' h2'⟩
theorem leP_total (a b : List Int) : (leP a b || leP b a) = true := by
  unfold leP
  rw [Bool.or_eq_true, decide_eq_true_eq, decide_eq_true_eq]
  rcases Nat.lt_trichotomy a.length b.length with h | h | h
  · exact .inl (.inl h)
  · rcases List.le_total a b with q | q
    · exact .inl (.inr ⟨h, q⟩)
    · exact .inr (.inr ⟨h.symm, q⟩)
  · exact .inr (.inl h)
theorem srtP_sorted (rows : List (List Int)) : (srtP rows).Pairwise fun a b => leP a b = true :=
  List.pairwise_mergeSort (le := leP) (fun _ _ _ h1 h2 => leP_trans h1 h2) leP_total rows
/-- of alike ones that stand together the first -/
def ddL (l : List (List Int)) : List (List Int) := ((List.range l.length).filter fun k => decide (k = 0) || !decide (l.getD (k - 1) [] = l.getD k [])).map fun k => l.getD k []
def inOrdL (rows : List (List Int)) : List (List Int) := (ddL (srtP rows)).take 20
theorem ddL_mem {l : List (List Int)} {x : List Int} (h : x ∈ ddL l) : x ∈ l := by
  unfold ddL at h
  obtain ⟨k, hk, rfl⟩ := List.mem_map.mp h
  have hk := List.mem_range.mp (List.mem_filter.mp hk).1
  rw [List.getD_eq_getElem?_getD, List.getElem?_eq_getElem hk]
  exact List.getElem_mem hk
theorem inOrd_mem {rows : List (List Int)} {x : List Int} (h : x ∈ inOrdL rows) : x ∈ rows := (srtP_perm rows).mem_iff.mp (ddL_mem (List.mem_of_mem_take h))
theorem inOrd_len (rows : List (List Int)) : (inOrdL rows).length ≤ 20 := by unfold inOrdL; rw [List.length_take]; omega
end VL
namespace VL
open PySem PySem.Spec PyProof.Rows L2
theorem tuple_mul1 (l : Addr) (items : Array Value) (n : Nat) (dd : Option Addr) (sl : Array (Option Value)) (x : Int) (u : Tok) (c0 : (decide (x < -(2 ^ 63)) || decide (x ≥ 2 ^ 63)) = false) (c1 : (items.isEmpty || x == 1) = true) :
    Meets (Builtin.«tuple.__mul__» ⟨[.ref l, .int x u], []⟩) (fun _ R s => s.heap.get? l = some { cls := .type "tuple", dict := dd, data := .seq items n, slots := sl } ∧ R (.ok (.ret (Value.ref l))) s) :=
  .of_wp fun prog w A R s h => by
    obtain ⟨hp, g, d, tk, os⟩ := s
    obtain ⟨hl, h⟩ := h
    have f1 := AutoSeq1.idx_int
    wp_walk using wpAny_loadPart' hl
    refine wpAny_ite_false (decide_eq_false (by rw [c0]; exact Bool.false_ne_true)) ?_
    wp_walk using wpAny_loadPart' hl
    exact ⟨_, rfl, h⟩
theorem tuple_mul0 (l : Addr) (items : Array Value) (n : Nat) (dd : Option Addr) (sl : Array (Option Value)) (x : Int) (u : Tok) (c0 : (decide (x < -(2 ^ 63)) || decide (x ≥ 2 ^ 63)) = false) (c1 : (items.isEmpty || x == 1) = false) (c2 : (decide (x ≤ 0) || items.isEmpty) = true) :
    Meets (Builtin.«tuple.__mul__» ⟨[.ref l, .int x u], []⟩) (fun _ R s => s.heap.get? l = some { cls := .type "tuple", dict := dd, data := .seq items n, slots := sl } ∧
      R (.ok (.ret (Value.ref s.heap.objs.size))) { s with heap := s.heap.push { cls := Value.type "tuple", data := Data.seq #[] }, toks := s.toks }) :=
  .of_wp fun prog w A R s h => by
    obtain ⟨hp, g, d, tk, os⟩ := s
    obtain ⟨hl, h⟩ := h
    have f1 := AutoSeq1.idx_int
    wp_walk using wpAny_loadPart' hl
    refine wpAny_ite_false (decide_eq_false (by rw [c0]; exact Bool.false_ne_true)) ?_
    wp_walk using wpAny_loadPart' hl
    exact ⟨_, rfl, h⟩
/-- t * k: nothing, the same, or a new one -/
def rRepF (K : PySem.W.Frag) : R2 := fun x y H Q => ∃ l k xs, x = .ref l ∧ y = .int k ∧ SqT K H l xs ∧ xs ≠ [] ∧ -1000 ≤ k ∧ k ≤ 1000 ∧ xs.length ≤ 1000 ∧ (k = 1 → Q (.ref l) H) ∧
  (k ≠ 1 → ∀ p (ob : Obj), ob.dict = none → H p = none → Q (.ref p) (upd H p (.frz ob (.tup (List.replicate k.toNat xs).flatten))))
section
variable {X : Cx}
theorem op_repF : OpR X (binaryOp .Mult) (rRepF X.K) := by
  intro pins s σ H x y v u Q I rx ry h
  obtain ⟨l, k, xs, rfl, rfl, hT, hne, h0, h2, hz, q1, q⟩ := h
  cases rx
  obtain ⟨t, rfl⟩ := ry
  obtain ⟨its, r, ⟨⟨cls, dd, data, sl⟩, ho, hc, n, hd⟩, hs⟩ := I.tuple hT
  simp only at hc hd
  subst hc hd
  have hle : its.length = xs.length := r.length.symm
  have hn : its ≠ [] := fun e => hne (by
    rw [e] at hle
    exact List.eq_nil_of_length_eq_zero hle.symm)
  have hi : its.toArray.isEmpty = false := by
    cases its with
    | nil => exact absurd rfl hn
    | cons a b => rfl
  have hsz0 : its.toArray.size = xs.length := by rw [List.size_toArray, hle]
  have c0 : (decide (k < -(2 ^ 63)) || decide (k ≥ 2 ^ 63)) = false := by
    rw [decide_eq_false (by omega), decide_eq_false (by omega)] <;> rfl
  have flen : (List.replicate k.toNat its).flatten.length ≤ sizeLine := by
    rw [PyProof.Rows.lm_len_rep_flat, hle, sizeLine_eq]
    have a1 : k.toNat * xs.length ≤ 1000 * 1000 := Nat.mul_le_mul (by omega) hz
    omega
  have fin : k ≠ 1 → ∀ (its' : List Value), its' = (List.replicate k.toNat its).flatten → ∃ v1 H1, L2.Inv X pins σ H1 { s with heap := s.heap.push { cls := Value.type "tuple", data := Data.seq its'.toArray }, toks := s.toks } ∧ RelV v1 (.ref s.heap.objs.size) ∧ Q v1 H1 := by
    rintro hk _ rfl
    refine ⟨.ref s.heap.objs.size, _, I.laid (t' := s.toks) (o := .frz { cls := Value.type "tuple", data := Data.seq (List.replicate k.toNat its).flatten.toArray } (.tup (List.replicate k.toNat xs).flatten)) (fun b ob q => Heap.get?_push_of_some _ q) (Nat.le_refl _) ?_, rfl, q hk _ _ rfl (I.hok.fresh (Nat.le_refl _))⟩
    exact ⟨Heap.get?_push_size _ rfl, by rw [PyProof.Rows.lm_len_rep_flat, sizeLine_eq]; have a1 : k.toNat * xs.length ≤ 1000 * 1000 := Nat.mul_le_mul (by omega) hz; omega, _, r.rep k.toNat, IsTup.new _ _⟩
  refine wpAny_binaryOp_repeat_ref (T := "tuple") (U := "int") (by decide) ⟨_, ho, rfl⟩ (fun s' => typeIs_int s' k t) noFill_tuple_mul F.fills_int_mul F.slot_int_rmul repeat_tuple F.slot_int_index.lookup
    (call_meets F.slot_int_rmul (typeIs_int s k t) F.entry_int_rmul (F.args_int_rmul_2 _ _) (int_rmul_tuple k t l its.toArray n dd sl)
      ⟨ho, rfl, ⟨_, ho, rfl⟩, ?_⟩)
  by_cases hk1 : k = 1
  · subst hk1
    exact call_meets F.slot_tuple_mul ⟨_, ho, rfl⟩ F.entry_tuple_mul (F.args_tuple_mul_2 _ _) (tuple_mul1 l its.toArray n dd sl 1 t c0 (by rw [hi]; rfl)) ⟨ho, ⟨.ref l, H, I, rfl, q1 rfl⟩⟩
  · have c1 : (its.toArray.isEmpty || k == 1) = false := by
      rw [hi, Bool.false_or]
      exact beq_eq_false_iff_ne.mpr hk1
    by_cases hk0 : k ≤ 0
    · refine call_meets F.slot_tuple_mul ⟨_, ho, rfl⟩ F.entry_tuple_mul (F.args_tuple_mul_2 _ _) (tuple_mul0 l its.toArray n dd sl k t c0 c1 (by rw [decide_eq_true hk0]; rfl)) ⟨ho, ?_⟩
      exact fin hk1 [] (by rw [show k.toNat = 0 by omega]; rfl)
    · have hm : ((its.toArray.size : Nat) : Int) * k ≤ 1000000 := by
        rw [hsz0]
        have a1 : ((xs.length : Nat) : Int) * k ≤ 1000 * k := Int.mul_le_mul_of_nonneg_right (by omega) (by omega)
        omega
      have c2 : (decide (k ≤ 0) || its.toArray.isEmpty) = false := by
        rw [hi, Bool.or_false]
        exact decide_eq_false hk0
      have c4 : Builtin.Tuple.tupleTooMany (((its.toArray.size : Nat) : Int) * k) = false := by
        unfold Builtin.Tuple.tupleTooMany
        rw [sizeLine_eq]
        exact decide_eq_false (by omega)
      refine call_meets F.slot_tuple_mul ⟨_, ho, rfl⟩ F.entry_tuple_mul (F.args_tuple_mul_2 _ _) (tuple_mulW l its.toArray n dd sl k t c0 c1 c2 (by omega) c4 (by rw [size_rep, List.size_toArray]; exact flen)) ⟨ho, ?_⟩
      rw [size_rep]
      exact fin hk1 _ rfl
def rvRepT : R2v := fun x y S Q => match x, y with
  | .tup xs, .int k => xs ≠ [] ∧ -1000 ≤ k ∧ k ≤ 1000 ∧ xs.length ≤ 1000 ∧ Q (.tup (List.replicate k.toNat xs).flatten) S
  | _, _ => False
theorem o_repT : OpR X (binaryOp .Mult) (up2 X.K rvRepT) := opR_imp op_repF fun x y H Q ⟨Z, S, dx, dy, Qv, m, rx, ry, h, b⟩ => by
  cases dx <;> try exact h.elim
  cases dy <;> try exact h.elim
  rename_i xs k
  obtain ⟨h1, h2, h3, h4, h5⟩ := h
  have rx' := rx
  simp only [Rp] at rx ry
  obtain ⟨a, vs, rfl, hT, r⟩ := rx
  refine ⟨a, k, vs, rfl, ry, sqT_of hT, fun e => h1 (List.eq_nil_of_length_eq_zero (by rw [r.len, e]; rfl)), h2, h3, by rw [← r.len]; exact h4, fun e => ?_, fun _ p ob hd hp => b _ _ _ _ (ext_new m hp) (sim_new m hp) (new_tup m (rps_rep r _) hp hd) h5⟩
  subst e
  have h5' := h5
  simp only [show Int.toNat 1 = 1 from rfl, List.replicate_one, List.flatten_cons, List.flatten_nil, List.append_nil] at h5'
  exact b _ _ H S .refl m rx' h5'
theorem v_gtup {x : Str} {ds : List D} {pos : Pos} (hm : ∃ a vs, X.mg x = some (.ref a) ∧ KT X.K a vs ∧ ∀ H S Z, Rps X.K H S Z ds vs) (hg : Gl X x := by rfl) (hd : (x == ("__debug__" : Str)) = false := by decide) : PE X (.Name x pos) (upE X.K (tvC (.tup ds))) := by
  obtain ⟨a, vs, hm, hk, r⟩ := hm
  exact vc (pe_glob (v := .ref a) hg hm rfl hd) fun H S Z => by simp only [Rp]; exact ⟨a, vs, rfl, .inr hk, r H S Z⟩
end
end VL
namespace VL
open PySem PySem.Spec PyProof.Rows L2
def MixAt (z TI TO i1 i2 a b : Addr) (i : Nat) (h : Heap) : Prop := IsZip h z TI TO .none ∧ IsTupOf2 h TI (.ref i1) (.ref i2) ∧ (∃ x y, IsTupOf2 h TO x y) ∧ h.IsTupleIter i1 a i ∧ h.IsListIter i2 b i
theorem five_of {c z TI TO i1 i2 : Addr} (h : c ∈ [z, TI, TO, i1, i2]) : c = z ∨ c = TI ∨ c = TO ∨ c = i1 ∨ c = i2 := by simpa using h
theorem MixAt.here {z TI TO i1 i2 a b : Addr} {i : Nat} {h : Heap} (m : MixAt z TI TO i1 i2 a b i h) {c : Addr} (hc : c ∈ [z, TI, TO, i1, i2]) : ∃ o, h.get? c = some o ∧ ∀ v, o.data ≠ .cell v := by
  obtain ⟨m1, m2, ⟨x, y, m3⟩, ⟨o1, e1, _, d1⟩, ⟨o2, e2, _, d2⟩⟩ := m
  rcases five_of hc with rfl | rfl | rfl | rfl | rfl
  · exact ⟨_, m1, fun v q => by cases q⟩
  · exact ⟨_, m2, fun v q => by cases q⟩
  · exact ⟨_, m3, fun v q => by cases q⟩
  · exact ⟨o1, e1, fun v q => by rw [d1] at q; cases q⟩
  · exact ⟨o2, e2, fun v q => by rw [d2] at q; cases q⟩
section
variable {K : PySem.W.Frag} {H : Hp} {S : Own} {Z : Addr → Prop}
end
section
variable {X : Cx}
end
end VL
namespace VL
open PySem PySem.Spec PyProof.Rows L2
/-- the numbers that stand at a node -/
def shT : Tr → List Int
  | .one => [1]
  | .run up ps => if up = true then upto ps.length else runSh false ps.length
  | .shp sh _ => sh
def kidsT : Tr → List Tr
  | .one => []
  | .run _ ps => ps
  | .shp _ ps => ps
theorem lift_congr {sh sh' : List Int} {rows : List (List Int)} {k : Nat} (h : ∀ j, j < rows.length → (sh.getD j 0 < sh.getD k 0 ↔ sh'.getD j 0 < sh'.getD k 0)) : liftOf sh rows k = liftOf sh' rows k := by
  unfold liftOf
  congr 2
  apply List.filter_congr
  intro j hj
  exact decide_eq_decide.mpr (h j (List.mem_range.mp hj))
theorem glue_congr {sh sh' : List Int} {rows : List (List Int)} (h : ∀ j k, j < rows.length → k < rows.length → (sh.getD j 0 < sh.getD k 0 ↔ sh'.getD j 0 < sh'.getD k 0)) : glue sh rows = glue sh' rows := by
  unfold glue
  rw [List.flatMap_def, List.flatMap_def]
  congr 1
  apply List.map_congr_left
  intro k hk
  rw [lift_congr fun j hj => h j k hj (List.mem_range.mp hk)]
theorem upto_getD {m j : Nat} (h : j < m) : (upto m).getD j 0 = (j : Int) + 1 := by rw [List.getD_eq_getElem?_getD, upto_get h]; rfl
theorem run_getD {m j : Nat} (h : j < m) : (runSh true m).getD j 0 = (j : Int) := by
  unfold runSh
  rw [if_pos rfl, List.getD_eq_getElem?_getD, List.getElem?_map, List.getElem?_range h]
  rfl
theorem order_glue {t : Tr} (h : isOne t = false) : orderT t = glue (shT t) (orderTs (kidsT t)) := by
  cases t with
  | one => cases h
  | run up ps =>
    simp only [orderT, shT, kidsT]
    cases up with
    | false => rfl
    | true =>
      rw [if_pos rfl]
      refine glue_congr fun j k hj hk => ?_
      rw [orderTs_length] at hj hk
      rw [run_getD hj, run_getD hk, upto_getD hj, upto_getD hk]
      omega
  | shp sh ps => simp only [orderT, shT, kidsT]
theorem shT_len {t : Tr} (hw : WfT t) (h : isOne t = false) : (shT t).length = (kidsT t).length ∧ 2 ≤ (kidsT t).length ∧ sizeT t = sizeTs (kidsT t) ∧ WfTs (kidsT t) := by
  cases t with
  | one => cases h
  | run up ps =>
    simp only [WfT] at hw
    refine ⟨?_, hw.1, by simp only [sizeT, kidsT], hw.2.2⟩
    simp only [shT, kidsT]
    split
    · exact upto_length _
    · exact runSh_length _ _
  | shp sh ps =>
    simp only [WfT] at hw
    have := hw.1.len
    exact ⟨hw.2.2.1, by simp only [kidsT]; omega, by simp only [sizeT, kidsT], hw.2.2.2⟩
theorem ix_kids {t : Tr} (h : isOne t = false) {S : Own} {Q : KE} : rvIx (treeD t) (.int (-1)) S Q = Q (.tup ((kidsT t).map treeD)) S := by
  cases t with
  | one => cases h
  | run up ps => simp only [treeD, kidsT, treeDs_map]; exact q_ixT (ix_last (xs := [D.str (wordOf up)]))
  | shp sh ps => simp only [treeD, kidsT, treeDs_map]; exact q_ixT (ix_last (xs := [D.str "shape", tupI sh]))
/-- the word at a node -/
def wordT : Tr → Str
  | .one => "one"
  | .run up _ => wordOf up
  | .shp _ _ => "shape"
theorem ix_word {t : Tr} {S : Own} {Q : KE} : rvIx (treeD t) (.int 0) S Q = Q (.str (wordT t)) S := by
  cases t with
  | one => simp only [treeD, wordT]; exact q_ixT atI_0
  | run up ps => simp only [treeD, wordT]; exact q_ixT atI_0
  | shp sh ps => simp only [treeD, wordT]; exact q_ixT atI_0
/-- a call on each part of a node -/
theorem kids_comp {Fr : FS} {i : Nat} {ρ : VS} {S : Own} {f : Tr → D} {c : Tr → Prop} (hi : ∀ d, nth (sat ρ i d) i = some d) (hF : ∀ t, c t → ∀ (S : Own) (Q : KE), Q (f t) S → Fr [treeD t] S Q) :
    ∀ (l : List Tr) (Q : List D → Own → Prop), (∀ p ∈ l, c p) → Q (l.map f) S → compV (.name i) ttYes (tvCall Fr (tvCons (tvVar i) tvNil)) ρ (l.map treeD) S Q
  | [], Q, _, h => h
  | p :: l, Q, hl, h => by
    rw [List.map_cons, comp_cons bind_name]
    simp only [q_yes, if_true, q_call, q_cons, q_nil]
    unfold tvVar
    rw [hi]
    exact hF p (hl p (by simp)) _ _ (kids_comp hi hF l _ (fun p' hp' => hl p' (by simp [hp'])) h)
end VL
namespace VL
open PySem PySem.Spec PyProof.Rows L2
theorem row_isD {ns : List Int} (h : Row ns) (h1 : 1 ≤ ns.length) (h2 : ns.length ≤ 40) : isRowD (tupI ns) = true ∧ ThD 40 1 (tupI ns) := by
  refine ⟨?_, thd_ints h2 fun i hi => by have := h.mem.mp hi; omega⟩
  simp only [isRowD, tupI, intsD_map]
  rw [isRowI_iff]
  exact ⟨h1, h2, h⟩
theorem q_repT {S : Own} {Q : KE} {x : D} {k : Int} : rvRepT (.tup [x]) (.int k) S Q = (-1000 ≤ k ∧ k ≤ 1000 ∧ Q (.tup (List.replicate k.toNat x)) S) := by
  simp only [rvRepT]
  rw [List.flatten_replicate_singleton]
  simp
theorem wfTs_rep (n : Nat) : WfTs (List.replicate n .one) := wfTs_of fun p hp => by rw [List.eq_of_mem_replicate hp]; simp only [WfT]
theorem sizeTs_rep (n : Nat) : sizeTs (List.replicate n .one) = n := by
  induction n with
  | zero => rfl
  | succ n ih => rw [List.replicate_succ]; simp only [sizeTs, sizeT, ih]; omega
theorem sizeTs_app (l m : List Tr) : sizeTs (l ++ m) = sizeTs l + sizeTs m := by rw [sizeTs_sum, sizeTs_sum, sizeTs_sum, List.map_append, List.sum_append]
theorem rep_ones (n : Nat) : List.replicate n (D.tup [.str "one"]) = (List.replicate n Tr.one).map treeD := by
  rw [List.map_replicate]; simp only [treeD]
end VL
namespace VL
open PySem PySem.Spec PyProof.Rows L2
local macro_rules | `(tactic| walk_at "vs") => `(tactic| simp only [q_var0, q_varS, q_sat0, q_satS, q_C, q_op, q_un, q_test, q_kB, q_not, q_and, q_or, q_ifE, q_andV, q_orV, q_notV, q_chain, q_nil, q_cons, q_tup, q_lst, q_lstO, q_CB, q_BM, q_call, q_seq, q_next, q_set, q_drop, q_ret, q_if, q_setIx, q_stD, q_nx, q_rt, q_endr, q_endn, q_I, q_I0, q_addI, q_addT, q_addL, q_neg, q_ixT atI_0, q_ixT atI_1, q_ixT atI_2, q_lenT, q_lenL, q_lenS, q_int1, q_intB, q_I1, q_II, q_tupT, q_tupL, q_rgL, q_lc, q_lcO, q_r1, q_r2, q_kR1, q_kR2, q_sq, q_kSqT, q_kSqL, q_kSqQ, q_isi, q_rev, q_revT, q_revL, q_wip0, q_wipS, q_unst0, q_unstS, q_yes, q_eqI, q_bls, q_sum, q_rcT, q_rcL, if_true, q_for, q_enum, q_kEnT, q_kEnL, q_repO, q_rep, q_let, q_bind, q_slv, q_noPart, q_part, q_kP, q_slT, q_slL, q_listT, q_listL, q_eqB, q_rgL3, q_lcW, q_forW, q_ow, q_owE,
  List.map_cons, List.map_nil, List.cons_append, List.nil_append, List.length_cons, List.length_nil, List.replicate])
def isOneD : D → Bool
  | .tup [.str w] => decide (w = "one")
  | _ => false
def hd1 : D → Option Str
  | .tup (.str w :: _) => some w
  | _ => none
def lenTD : D → Nat
  | .tup xs => xs.length
  | _ => 0
def runOk (w : Str) (ps : List D) : Bool := (decide (w = "rise") || decide (w = "fall")) && (decide (2 ≤ ps.length) && !(ps.any fun p => decide (hd1 p = some w)))
def shpOk (w : Str) (sh : D) (ps : List D) : Bool := decide (w = "shape") && (unbD sh && decide (ps.length = lenTD sh))
def nodeD : D → Bool
  | .tup [.str w, .tup ps] => runOk w ps
  | .tup [.str w, sh, .tup ps] => shpOk w sh ps
  | _ => false
def partsD : D → List D
  | .tup [_, .tup ps] => ps
  | .tup [_, _, .tup ps] => ps
  | _ => []
def sizeN : Nat → D → Nat
  | 0, _ => 0
  | n + 1, d => if isOneD d = true then 1 else if nodeD d = true then (if 0 ∈ (partsD d).map (sizeN n) then 0 else ((partsD d).map (sizeN n)).sum) else 0
theorem toP_str {d : D} {p : PyData} {s : Str} (h : toP d = some p) : PyData.eqv p (.str s) = match d with | .str x => x == s | _ => false := by
  cases d with
  | non => simp only [toP, Option.some.injEq] at h; subst h; rfl
  | bl b => simp only [toP, Option.some.injEq] at h; subst h; rfl
  | int i => simp only [toP, Option.some.injEq] at h; subst h; rfl
  | str x => simp only [toP, Option.some.injEq] at h; subst h; rfl
  | tup xs =>
    simp only [toP] at h
    cases e : toPs xs with
    | none => rw [e] at h; cases h
    | some qs => rw [e] at h; cases h; rfl
  | tuq xs =>
    simp only [toP] at h
    cases e : toPs xs with
    | none => rw [e] at h; cases h
    | some qs => rw [e] at h; cases h; rfl
  | lst xs =>
    simp only [toP] at h
    cases e : toPs xs with
    | none => rw [e] at h; cases h
    | some qs => rw [e] at h; cases h; rfl
  | scr xs =>
    simp only [toP] at h
    cases e : toPs xs with
    | none => rw [e] at h; cases h
    | some qs => rw [e] at h; cases h; rfl
  | _ => simp [toP] at h
theorem thd_notq {w n : Nat} {xs : List D} : ¬ ThD w n (.tuq xs) := by
  cases n with
  | zero => exact fun h => h
  | succ n => rintro (h | ⟨ys, h | h, _⟩) <;> cases h
theorem thd_nots {w n : Nat} {xs : List D} : ¬ ThD w n (.scr xs) := by
  cases n with
  | zero => exact fun h => h
  | succ n => rintro (h | ⟨ys, h | h, _⟩) <;> cases h
def one1 (s : Str) : D → Bool
  | .tup [.str x] => x == s
  | _ => false
/-- d == (s,) -/
theorem q_eq1 {S : Own} {Q : KE} {g : Bool → Bool} {d : D} {w n : Nat} {s : Str} (h : ThD w n d) (hn : n ≤ 190) : rvEqv g d (.tup [.str s]) S Q = Q (.bl (g (one1 s d))) S := by
  obtain ⟨p, hp, hd⟩ := h.data
  have hv : vw S d = d := vw_no h.noref
  have e2 : toP (vw S (.tup [.str s])) = some (.tuple [.str s]) := rfl
  rw [q_eqv (p := p) (by rw [hv]; exact hp) e2]
  have e3 : PyData.eqv p (.tuple [.str s]) = one1 s d := by
    cases d with
    | tup xs =>
      match xs, hp with
      | [], hp => simp only [toP, toPs, Option.some.injEq] at hp; subst hp; rfl
      | [x], hp =>
        cases e : toP x with
        | none => simp only [toP, toPs, e] at hp; cases hp
        | some q =>
          simp only [toP, toPs, e, Option.some.injEq] at hp
          subst hp
          simp only [PyData.eqv, PyData.eqvAll, Bool.and_true]
          rw [toP_str e]
          cases x <;> rfl
      | x :: y :: r, hp =>
        cases e : toP x with
        | none => simp only [toP, toPs, e] at hp; cases hp
        | some q =>
          cases e4 : toPs (y :: r) with
          | none => simp only [toP, toPs, e] at hp; simp only [toPs] at e4; rw [e4] at hp; cases hp
          | some qs =>
            have : p = .tuple (q :: qs) := by
              simp only [toP] at hp
              rw [show toPs (x :: y :: r) = some (q :: qs) by rw [toPs, e, e4]] at hp
              exact (Option.some.inj hp).symm
            subst this
            have hq : qs ≠ [] := fun z => by
              rw [z] at e4
              simp only [toPs] at e4
              split at e4 <;> simp at e4
            cases qs with
            | nil => exact absurd rfl hq
            | cons a b =>
              simp only [PyData.eqv, PyData.eqvAll, Bool.and_false]
              cases x <;> rfl
    | non => simp only [toP, Option.some.injEq] at hp; subst hp; rfl
    | bl b => simp only [toP, Option.some.injEq] at hp; subst hp; rfl
    | int i => simp only [toP, Option.some.injEq] at hp; subst hp; rfl
    | str x => simp only [toP, Option.some.injEq] at hp; subst hp; rfl
    | lst xs =>
      simp only [toP] at hp
      cases e : toPs xs with
      | none => rw [e] at hp; cases hp
      | some qs => rw [e] at hp; cases hp; rfl
    | tuq xs => exact absurd h thd_notq
    | scr xs => exact absurd h thd_nots
    | _ => simp [toP] at hp
  rw [e3]
  have : p.depth ≤ 190 := by omega
  simp only [this, true_and]

def partOk (m : Int) : D → Bool
  | .tup ps => if 0 < m then decide ((ps.length : Int) = m) else decide (1 < ps.length)
  | _ => false
def F_p_has_parts : FS := fun ds S Q => ∃ xs x m w n, ds = [.tup (xs ++ [x]), .int m] ∧ ThD w n x ∧ 0 ≤ m ∧ Q (.bl (partOk m x)) S
def T_p_has_parts : TSv := (tvSeq (tvIf (tvNot (tvTest (tvIsi isTup (tvOp rvIx (tvVar 0) (tvUn rvNeg (tvC (.int 1)))))))
  (tvRet (tvC (.bl false)))
  tvNext)
  (tvRet (tvIfE (tvTest (tvOp rvGt (tvVar 1) (tvC (.int 0)))) (tvOp rvEq (tvCB rvLen (tvCons (tvOp rvIx (tvVar 0) (tvUn rvNeg (tvC (.int 1)))) tvNil)) (tvVar 1)) (tvOp rvGt (tvCB rvLen (tvCons (tvOp rvIx (tvVar 0) (tvUn rvNeg (tvC (.int 1)))) tvNil)) (tvC (.int 1))))))

theorem isTup_cases {w n : Nat} {d : D} (h : ThD w n d) : (∃ xs, d = .tup xs) ∨ (isTup d = false ∧ ∀ xs, d ≠ .tup xs) := by
  cases e : isTup d with
  | true => exact .inl (h.isTup e)
  | false => exact .inr ⟨rfl, fun xs z => by rw [z] at e; cases e⟩
theorem t_p_has_parts : ∀ ds S Qv, F_p_has_parts ds S Qv → T_p_has_parts (endsV Qv) (stD 2 ds) S := by
  rintro ds S Qv ⟨xs, x, m, w, n, rfl, hx, hm, q⟩
  unfold T_p_has_parts
  have hv : ∀ S, vw S x = x := fun S => vw_no hx.noref
  obtain ⟨tn, htn⟩ := hx.ty
  walk_at "vs"
  simp only [q_ixT (ix_last (xs := xs) (x := x)), hv]
  refine ⟨tn, htn, ?_⟩
  rcases isTup_cases hx with ⟨ps, rfl⟩ | ⟨e, ne⟩
  · simp only [isTup, Bool.not_true, Bool.false_eq_true, if_false, rvGt, q_I0, q_kB, q_lenT]
    by_cases h0 : 0 < m
    · rw [if_pos (decide_eq_true h0)]
      simp only [partOk, if_pos h0] at q
      simp only [rvEq, q_eqI]
      exact fin_of q
    · rw [if_neg (by rw [decide_eq_true_eq]; exact h0)]
      simp only [partOk, if_neg h0] at q
      have e9 : decide ((1 : Int) < (ps.length : Int)) = decide (1 < ps.length) := decide_eq_decide.mpr (by omega)
      rw [e9]
      exact fin_of q
  · rw [e]
    have e2 : partOk m x = false := by
      cases x <;> first | rfl | exact absurd rfl (ne _)
    rw [e2] at q
    exact fin_of q
def F_p_is_node : FS := fun ds S Q => ∃ w n d, ds = [d] ∧ ThD w n d ∧ w ≤ 1000 ∧ n ≤ 100 ∧ Q (.bl (nodeD d)) S
def T_p_is_node : TSv := (tvSeq (tvIf (tvOr (tvNot (tvTest (tvIsi isTup (tvVar 0)))) (tvOr (tvTest (tvOp rvLt (tvCB rvLen (tvCons (tvVar 0) tvNil)) (tvC (.int 2)))) (tvNot (tvTest (tvIsi isStr (tvOp rvIx (tvVar 0) (tvC (.int 0))))))))
  (tvRet (tvC (.bl false)))
  tvNext)
  (tvSeq (tvIf (tvTest (tvOp rvEq (tvOp rvIx (tvVar 0) (tvC (.int 0))) (tvC (.str "shape"))))
  (tvRet (tvAndV (tvOp rvEq (tvCB rvLen (tvCons (tvVar 0) tvNil)) (tvC (.int 3))) (tvAndV (tvCall F_p_is_unbroken (tvCons (tvOp rvIx (tvVar 0) (tvC (.int 1))) tvNil)) (tvCall F_p_has_parts (tvCons (tvVar 0) (tvCons (tvCB rvLen (tvCons (tvOp rvIx (tvVar 0) (tvC (.int 1))) tvNil)) tvNil))))))
  tvNext)
  (tvSeq (tvIf (tvOr (tvTest (tvOp rvNotIn (tvOp rvIx (tvVar 0) (tvC (.int 0))) (tvC (.tup [.str "rise", .str "fall"])))) (tvOr (tvTest (tvOp rvNe (tvCB rvLen (tvCons (tvVar 0) tvNil)) (tvC (.int 2)))) (tvNot (tvTest (tvCall F_p_has_parts (tvCons (tvVar 0) (tvCons (tvC (.int 0)) tvNil)))))))
  (tvRet (tvC (.bl false)))
  tvNext)
  (tvRet (tvNotV (tvCB (rvBls fun bs => bs.any id) (tvCons (tvLc (tvSq (tvOp rvIx (tvVar 0) (tvC (.int 1)))) (.name 1) ttYes (tvAndV (tvIsi isTup (tvVar 1)) (tvOp rvEq (tvSl rvSl (tvVar 1) tvNoPart (tvPart (tvC (.int 1)))) (tvSl rvSl (tvVar 0) tvNoPart (tvPart (tvC (.int 1)))))) [1]) tvNil)))))))

/-- the first item, as a slice, beside (s,) -/
theorem part_eq {S : Own} {Q : KE} {p : D} {w n : Nat} {s : Str} {rest : List D} (hp : ThD w n p) (hw : w ≤ 1000) (hn : n ≤ 100) (ht : isTup p = true) : rvSl p none (some 1) S (fun x S1 => rvEqv (fun b => b) x (.tup (cutD (D.str s :: rest) none (some 1))) S1 Q) = Q (.bl (decide (hd1 p = some s))) S := by
  obtain ⟨ys, rfl⟩ := hp.isTup ht
  have e1 : ∀ (zs : List D) S (Q : KE), rvSl (.tup zs) none (some 1) S Q = Q (.tup (zs.take 1)) S := fun zs S Q => by
    show Q (.tup (cutD zs none (some 1))) S = _
    rw [cut_to (by omega)]
    rfl
  have e2 : cutD (D.str s :: rest) none (some 1) = [.str s] := by rw [cut_to (by omega)]; rfl
  simp only [e1, e2]
  have hk : ThD w n (.tup (ys.take 1)) := by
    obtain ⟨m, rfl, hl, hx⟩ := hp.kids
    exact ThD.tup (by rw [List.length_take]; omega) fun x hxm => hx x (List.mem_of_mem_take hxm)
  rw [q_eq1 hk (by omega)]
  congr 2
  cases ys with
  | nil => rfl
  | cons y r =>
    show one1 s (.tup [y]) = decide (hd1 (.tup (y :: r)) = some s)
    cases y <;> try rfl
    rename_i x
    show (x == s) = decide (some x = some s)
    rw [Bool.eq_iff_iff, decide_eq_true_iff]
    simp
theorem q_notW {S : Own} {Q : KE} {s a b : Str} : rvNotIn (.str s) (.tup [.str a, .str b]) S Q = Q (.bl (!(decide (s = a) || decide (s = b)))) S := by
  have e3 : ([PyData.str a, PyData.str b].any fun q => PyData.eqv q (.str s)) = (decide (s = a) || decide (s = b)) := by
    simp only [List.any_cons, List.any_nil, Bool.or_false, PyData.eqv]
    rw [Bool.eq_iff_iff]
    simp only [Bool.or_eq_true, beq_iff_eq, decide_eq_true_eq]
    constructor <;> (rintro (h | h) <;> simp [h])
  have e : toP (vw S (.tup [.str a, .str b])) = some (.tuple [.str a, .str b]) := rfl
  simp only [rvNotIn, rvInG, e, toP, e3, PyData.depth, eq_iff_iff, and_iff_right_iff_imp]
  intro _; omega
theorem unbD_len {d : D} (h : unbD d = true) : ∃ ns, d = tupI ns ∧ Row ns ∧ 4 ≤ ns.length ∧ ns.length ≤ 40 ∧ blocked ns = false := by
  have hr : isRowD d = true := by
    cases e : isRowD d with
    | true => rfl
    | false => rw [unbD_no e] at h; cases h
  obtain ⟨ns, rfl, hrow, h1, h40⟩ := rowD_ints hr
  rw [unbD_row hr] at h
  simp only [Bool.and_eq_true, decide_eq_true_eq, Bool.not_eq_true'] at h
  exact ⟨ns, rfl, hrow, by omega, h40, h.2⟩
theorem node_nostr {x y : D} {r : List D} (h : ∀ s, x ≠ .str s) : nodeD (.tup (x :: y :: r)) = false := by
  unfold nodeD
  split
  · rename_i s ps e; cases e; exact absurd rfl (h _)
  · rename_i s sh ps e; cases e; exact absurd rfl (h _)
  · rfl
theorem t_p_is_node : ∀ ds S Qv, F_p_is_node ds S Qv → T_p_is_node (endsV Qv) (stD 2 ds) S := by
  rintro ds S Qv ⟨w, n, d, rfl, hd, hw, hn, q⟩
  unfold T_p_is_node
  walk_at "vs"
  have hvv := fun S => vw_no (S := S) (ThD.noref hd)
  obtain ⟨tnn, htnn⟩ := ThD.ty hd
  simp only [hvv]
  refine ⟨tnn, htnn, ?_⟩
  rcases isTup_cases hd with ⟨xs, rfl⟩ | ⟨e, ne⟩
  · obtain ⟨m, rfl, hl, hx⟩ := hd.kids
    simp only [isTup, Bool.not_true, Bool.false_eq_true, if_false, q_lenT, rvLt, q_I0, q_kB]
    match xs, hl, hx, hd, q with
    | [], hl, hx, hd, q => exact fin_of q
    | [x], hl, hx, hd, q =>
      rw [if_pos (by simp)]
      cases x <;> exact fin_of q
    | x :: y :: r, hl, hx, hd, q =>
      rw [if_neg (by simp only [List.length_cons, decide_eq_true_eq]; omega)]
      have i0 : ∀ S (Q : KE), rvIx (.tup (x :: y :: r)) (.int 0) S Q = Q x S := fun S Q => q_ixT atI_0
      have i1 : ∀ S (Q : KE), rvIx (.tup (x :: y :: r)) (.int 1) S Q = Q y S := fun S Q => q_ixT atI_1
      simp only [i0, i1]
      have hvv := fun S => vw_no (S := S) (ThD.noref (hx x (by simp)))
      obtain ⟨tnn, htnn⟩ := ThD.ty (hx x (by simp))
      simp only [hvv]
      refine ⟨tnn, htnn, ?_⟩
      cases hxs : isStr x with
      | false =>
        have e2 : nodeD (.tup (x :: y :: r)) = false := by
          exact node_nostr fun s z => by rw [z] at hxs; cases hxs
        rw [e2] at q
        exact fin_of q
      | true =>
        obtain ⟨s, rfl⟩ : ∃ s, x = .str s := by cases x <;> first | exact ⟨_, rfl⟩ | cases hxs
        simp only [Bool.not_true, Bool.false_eq_true, if_false, rvEq, q_eqW, q_kB]
        by_cases hs : s = "shape"
        · subst hs
          have e3 : (("shape" : Str) == ("shape" : Str)) = true := by decide
          rw [e3, if_pos rfl]
          simp only [q_eqI, q_kB, List.length_cons]
          match r, hl, hx, hd, q, i0, i1 with
          | [], hl, hx, hd, q, i0, i1 =>
            rw [if_neg (by simp)]
            have e2 : nodeD (.tup [.str "shape", y]) = false := by
              cases y <;> first | rfl | (simp only [nodeD, runOk]; rw [decide_eq_false (by decide), decide_eq_false (by decide)] <;> rfl)
            rw [e2] at q
            exact fin_of q
          | [z], hl, hx, hd, q, i0, i1 =>
            rw [if_pos (by simp)]
            refine ⟨w, m, y, rfl, hx y (by simp), hw, by omega, ?_⟩
            simp only [q_kB]
            cases hu : unbD y with
            | false =>
              have e2 : nodeD (.tup [.str "shape", y, z]) = false := by
                cases z <;> first | rfl | (simp only [nodeD, shpOk, hu] <;> simp)
              rw [e2] at q
              exact fin_of q
            | true =>
              obtain ⟨ns, rfl, hrow, h4, h40, hb⟩ := unbD_len hu
              simp only [if_true, q_lenI]
              refine ⟨[.str "shape", tupI ns], z, (ns.length : Nat), w, m, rfl, hx z (by simp), by omega, ?_⟩
              have e2 : nodeD (.tup [.str "shape", tupI ns, z]) = partOk (ns.length : Nat) z := by
                cases z with
                | tup ps =>
                  have a1 : nodeD (.tup [.str "shape", tupI ns, .tup ps]) = (decide (("shape" : Str) = "shape") && (unbD (tupI ns) && decide (ps.length = (ns.map D.int).length))) := rfl
                  have a2 : partOk (ns.length : Nat) (.tup ps) = if (0 : Int) < (ns.length : Nat) then decide ((ps.length : Int) = (ns.length : Nat)) else decide (1 < ps.length) := rfl
                  rw [a1, a2, if_pos (by omega), hu, decide_eq_true rfl, Bool.true_and, Bool.true_and, List.length_map]
                  exact decide_eq_decide.mpr (by omega)
                | _ => rfl
              rw [e2] at q
              exact fin_of q
          | z :: z2 :: r2, hl, hx, hd, q, i0, i1 =>
            rw [if_neg (by simp only [List.length_cons, decide_eq_true_eq]; omega)]
            have e2 : nodeD (.tup (.str "shape" :: y :: z :: z2 :: r2)) = false := by cases y <;> cases z <;> rfl
            rw [e2] at q
            exact fin_of q
        · have e3 : (s == ("shape" : Str)) = false := beq_eq_false_iff_ne.mpr hs
          rw [e3]
          simp only [Bool.false_eq_true, if_false, q_notW, q_kB]
          cases hrun : (decide (s = "rise") || decide (s = "fall")) with
          | false =>
            have e2 : nodeD (.tup (.str s :: y :: r)) = false := by
              match r with
              | [] => cases y <;> first | rfl | (simp only [nodeD, runOk, hrun] <;> rfl)
              | [z] => cases z <;> first | rfl | (simp only [nodeD, shpOk, decide_eq_false hs] <;> rfl)
              | z :: z2 :: r2 => cases y <;> cases z <;> rfl
            rw [e2] at q
            exact fin_of q
          | true =>
            simp only [Bool.not_true, Bool.false_eq_true, if_false, rvNe, q_eqI, q_kB, List.length_cons]
            match r, hl, hx, hd, q, i0, i1 with
            | [], hl, hx, hd, q, i0, i1 =>
              rw [if_neg (by simp)]
              refine ⟨[.str s], y, 0, w, m, rfl, hx y (by simp), by omega, ?_⟩
              simp only [q_kB]
              have hy := hx y (by simp)
              rcases isTup_cases hy with ⟨ps, rfl⟩ | ⟨e, ne⟩
              · obtain ⟨m2, rfl, hl2, hx2⟩ := hy.kids
                have e4 : partOk 0 (.tup ps) = decide (1 < ps.length) := rfl
                rw [e4]
                have e5 : nodeD (.tup [.str s, .tup ps]) = (decide (1 < ps.length) && !(ps.any fun p => decide (hd1 p = some s))) := by
                  simp only [nodeD, runOk, hrun, Bool.true_and]
                  rfl
                rw [e5] at q
                by_cases h2 : 1 < ps.length
                · rw [decide_eq_true h2] at q
                  simp only [decide_eq_true h2, Bool.not_true, Bool.false_eq_true, if_false, q_kSqT]
                  simp only [Bool.true_and] at q
                  refine ⟨sz (by omega), comp_map (fun p => .bl (decide (hd1 p = some s))) _ _ (fun p hp => ⟨_, bind_name, fun Q' q' => ?_⟩) ?_⟩
                  · have hpt := hx2 p hp
                    walk_at "vs"
                    have hvv := fun S => vw_no (S := S) (ThD.noref hpt)
                    obtain ⟨tnn, htnn⟩ := ThD.ty hpt
                    simp only [hvv]
                    refine ⟨tnn, htnn, ?_⟩
                    cases ht : isTup p with
                    | false =>
                      have e6 : decide (hd1 p = some s) = false := by
                        cases p <;> first | rfl | cases ht
                      rw [e6] at q'
                      exact q'
                    | true =>
                      simp only [q_kB, if_true, q_kP]
                      rw [part_eq hpt hw (by omega) ht]
                      exact q'
                  · have e7 : ps.map (fun p => D.bl (decide (hd1 p = some s))) = (ps.map fun p => decide (hd1 p = some s)).map D.bl := by rw [List.map_map]; rfl
                    rw [e7]
                    simp only [q_bls, q_kB]
                    have e8 : (ps.map fun p => decide (hd1 p = some s)).any id = ps.any fun p => decide (hd1 p = some s) := by rw [List.any_map]; rfl
                    rw [e8]
                    exact fin_of q
                · rw [decide_eq_false h2] at q
                  simp only [decide_eq_false h2]
                  exact fin_of q
              · have e6 : partOk 0 y = false := by cases y <;> first | rfl | exact absurd rfl (ne _)
                have e2 : nodeD (.tup [.str s, y]) = false := by cases y <;> first | rfl | exact absurd rfl (ne _)
                rw [e6]
                rw [e2] at q
                exact fin_of q
            | z :: r2, hl, hx, hd, q, i0, i1 =>
              rw [if_pos (by rw [Bool.not_eq_true', decide_eq_false_iff_not]; simp only [List.length_cons]; omega)]
              have e2 : nodeD (.tup (.str s :: y :: z :: r2)) = false := by
                cases r2 with
                | nil => cases z <;> first | rfl | (simp only [nodeD, shpOk, decide_eq_false hs] <;> rfl)
                | cons a b => cases y <;> cases z <;> rfl
              rw [e2] at q
              exact fin_of q
  · rw [e]
    have e2 : nodeD d = false := by cases d <;> first | rfl | exact absurd rfl (ne _)
    rw [e2] at q
    exact fin_of q
end VL
namespace VL
open PySem PySem.Spec PyProof.Rows L2
local macro_rules | `(tactic| walk_at "vs") => `(tactic| simp only [q_var0, q_varS, q_sat0, q_satS, q_C, q_op, q_un, q_test, q_kB, q_not, q_and, q_or, q_ifE, q_andV, q_orV, q_notV, q_chain, q_nil, q_cons, q_tup, q_lst, q_lstO, q_CB, q_BM, q_call, q_seq, q_next, q_set, q_drop, q_ret, q_if, q_setIx, q_stD, q_nx, q_rt, q_endr, q_endn, q_I, q_I0, q_addI, q_addT, q_addL, q_neg, q_ixT atI_0, q_ixT atI_1, q_ixT atI_2, q_lenT, q_lenL, q_lenS, q_int1, q_intB, q_I1, q_II, q_tupT, q_tupL, q_rgL, q_lc, q_lcO, q_r1, q_r2, q_kR1, q_kR2, q_sq, q_kSqT, q_kSqL, q_kSqQ, q_isi, q_rev, q_revT, q_revL, q_wip0, q_wipS, q_unst0, q_unstS, q_yes, q_eqI, q_bls, q_sum, q_rcT, q_rcL, if_true, q_for, q_enum, q_kEnT, q_kEnL, q_repO, q_rep, q_let, q_bind, q_slv, q_noPart, q_part, q_kP, q_slT, q_slL, q_listT, q_listL, q_eqB, q_rgL3, q_lcW, q_forW, q_ow, q_owE,
  List.map_cons, List.map_nil, List.cons_append, List.nil_append, List.length_cons, List.length_nil, List.replicate])
theorem isOne_1 (d : D) : isOneD d = one1 "one" d := by
  unfold isOneD one1
  split
  · rename_i x
    rw [Bool.eq_iff_iff, decide_eq_true_iff, beq_iff_eq]
  · rfl
def natL (l : List Nat) : D := .lst (l.map fun n : Nat => .int (n : Nat))
theorem q_in0 {S : Own} {Q : KE} {l : List Nat} : rvIn (.int 0) (natL l) S Q = Q (.bl (decide (0 ∈ l))) S := by
  have e : toP (vw S (natL l)) = some (.list (l.map fun n : Nat => PyData.int (n : Nat))) := by
    have := toPs_ints (l.map fun n : Nat => (n : Int))
    rw [List.map_map, List.map_map] at this
    unfold natL
    simp only [vw, toP]
    rw [show (l.map fun n : Nat => D.int (n : Nat)) = l.map (D.int ∘ fun n : Nat => (n : Int)) from rfl, this]
    rfl
  have e3 : ((l.map fun n : Nat => PyData.int (n : Nat)).any fun q => PyData.eqv q (.int 0)) = decide (0 ∈ l) := by
    rw [List.any_map, Bool.eq_iff_iff, List.any_eq_true, decide_eq_true_iff]
    constructor
    · rintro ⟨x, hx, h⟩
      have h : ((x : Int) == 0) = true := h
      have : x = 0 := by have := beq_iff_eq.mp h; omega
      rw [← this]; exact hx
    · intro h
      exact ⟨0, h, rfl⟩
  simp only [rvIn, rvInG, e, toP, e3, PyData.depth, eq_iff_iff, and_iff_right_iff_imp]
  intro _; omega
theorem q_sumN {S : Own} {Q : KE} {l : List Nat} : rvSum [natL l] S Q = Q (.int (l.sum : Nat)) S := by
  unfold natL
  have := q_sum (S := S) (Q := Q) (ns := l.map fun n : Nat => (n : Int))
  rw [List.map_map, ← natsum_cast] at this
  exact this
def F_p_size_of : Nat → FS
  | 0 => fun _ _ _ => False
  | n + 1 => fun ds S Q => ∃ w m d, ds = [d] ∧ ThD w m d ∧ m ≤ n ∧ w ≤ 1000 ∧ n ≤ 100 ∧ Q (.int (sizeN (n + 1) d : Nat)) S
def T_p_size_of (Fr : FS) : TSv := (tvSeq (tvIf (tvTest (tvOp rvEq (tvVar 0) (tvC (.tup [.str "one"]))))
  (tvRet (tvC (.int 1)))
  tvNext)
  (tvSeq (tvIf (tvNot (tvTest (tvCall F_p_is_node (tvCons (tvVar 0) tvNil))))
  (tvRet (tvC (.int 0)))
  tvNext)
  (tvSeq (tvSet 1 (tvLc (tvSq (tvOp rvIx (tvVar 0) (tvUn rvNeg (tvC (.int 1))))) (.name 2) ttYes (tvCall Fr (tvCons (tvVar 2) tvNil)) [2]))
  (tvRet (tvIfE (tvTest (tvOp rvIn (tvC (.int 0)) (tvVar 1))) (tvC (.int 0)) (tvCB rvSum (tvCons (tvVar 1) tvNil)))))))

theorem node_parts {d : D} (h : nodeD d = true) : ∃ pre ps, d = .tup (pre ++ [.tup ps]) ∧ partsD d = ps ∧ pre ≠ [] := by
  unfold nodeD at h
  split at h
  · rename_i s ps
    exact ⟨[.str s], ps, rfl, rfl, by simp⟩
  · rename_i s sh ps
    exact ⟨[.str s, sh], ps, rfl, by cases sh <;> rfl, by simp⟩
  · cases h
theorem sizes_comp {Fr : FS} {i n : Nat} {ρ : VS} {S : Own} {w m : Nat} (hi : ∀ d, nth (sat ρ i d) i = some d) (hF : ∀ d, ThD w m d → ∀ (S : Own) (Q : KE), Q (.int (sizeN n d : Nat)) S → Fr [d] S Q) :
    ∀ (l : List D) (Q : List D → Own → Prop), (∀ p ∈ l, ThD w m p) → Q ((l.map (sizeN n)).map fun k : Nat => D.int (k : Nat)) S → compV (.name i) ttYes (tvCall Fr (tvCons (tvVar i) tvNil)) ρ l S Q
  | [], Q, _, h => h
  | p :: l, Q, hl, h => by
    rw [comp_cons bind_name]
    simp only [q_yes, if_true, q_call, q_cons, q_nil]
    unfold tvVar
    rw [hi]
    exact hF p (hl p (by simp)) _ _ (sizes_comp hi hF l _ (fun p' hp' => hl p' (by simp [hp'])) h)
theorem t_p_size_of (n : Nat) : ∀ ds S Qv, F_p_size_of (n + 1) ds S Qv → T_p_size_of (F_p_size_of n) (endsV Qv) (stD 3 ds) S := by
  rintro ds S Qv ⟨w, m, d, rfl, hd, hm, hw, hn, q⟩
  unfold T_p_size_of
  walk_at "vs"
  simp only [rvEq, q_eq1 hd (show m ≤ 190 by omega), ← isOne_1, q_kB]
  simp only [sizeN] at q
  cases h1 : isOneD d with
  | true =>
    rw [h1, if_pos rfl] at q
    exact fin_of q
  | false =>
    rw [h1] at q
    simp only [Bool.false_eq_true, if_false] at q ⊢
    refine ⟨w, m, d, rfl, hd, hw, by omega, ?_⟩
    simp only [q_kB]
    cases h2 : nodeD d with
    | false =>
      rw [h2] at q
      exact fin_of q
    | true =>
      rw [h2, if_pos rfl] at q
      obtain ⟨pre, ps, rfl, hps, hpre⟩ := node_parts h2
      obtain ⟨m1, rfl, hl1, hx1⟩ := hd.kids
      obtain ⟨m2, rfl, hl2, hx2⟩ := (hx1 (.tup ps) (by simp)).kids
      rw [hps] at q
      simp only [Bool.not_true, Bool.false_eq_true, if_false, q_ixT (ix_last (xs := pre) (x := D.tup ps)), q_kSqT]
      refine ⟨sz (by omega), sizes_comp (n := n) (w := w) (m := m2) (i := 2) (fun _ => rfl) (fun p hp S Q q' => ?_) ps _ hx2 ?_⟩
      · obtain ⟨n', rfl⟩ : ∃ n', n = n' + 1 := ⟨n - 1, by omega⟩
        exact ⟨w, m2, p, rfl, hp, by omega, hw, by omega, q'⟩
      · have e : D.lst ((ps.map (sizeN n)).map fun k : Nat => D.int (k : Nat)) = natL (ps.map (sizeN n)) := rfl
        rw [e]
        simp only [q_in0, q_sumN, q_kB]
        by_cases h0 : 0 ∈ ps.map (sizeN n)
        · rw [if_pos h0] at q
          rw [if_pos (decide_eq_true h0)]
          exact fin_of q
        · rw [if_neg h0] at q
          rw [if_neg (by rw [decide_eq_true_eq]; exact h0)]
          exact fin_of q
def isTreeD (d : D) : Bool := decide (1 ≤ sizeN 101 d) && decide (sizeN 101 d ≤ 40)
def F_p_is_tree : FS := fun ds S Q => ∃ w m d, ds = [d] ∧ ThD w m d ∧ m ≤ 100 ∧ w ≤ 1000 ∧ Q (.bl (isTreeD d)) S
def T_p_is_tree : TSv := (tvRet (tvChain rvLe rvLe (tvC (.int 1)) (tvCall (F_p_size_of 101) (tvCons (tvVar 0) tvNil)) (tvC (.int 40))))

theorem chain_tree {S : Own} {Q : KE} {k : Nat} (q : Q (.bl (decide (1 ≤ k) && decide (k ≤ 40))) S) : rvLe (.int 1) (.int (k : Nat)) S (kB fun b S3 => if b = true then rvLe (.int (k : Nat)) (.int 40) S3 Q else Q (.bl false) S3) := by
  simp only [rvLe, q_I0, q_kB]
  by_cases h : 1 ≤ k
  · rw [if_pos (decide_eq_true (by omega))]
    have e : decide ((k : Int) ≤ 40) = (decide (1 ≤ k) && decide (k ≤ 40)) := by
      rw [decide_eq_true h, Bool.true_and]
      exact decide_eq_decide.mpr (by omega)
    rw [e]; exact q
  · rw [if_neg (by rw [decide_eq_true_eq]; omega)]
    rw [decide_eq_false h, Bool.false_and] at q
    exact q
theorem t_p_is_tree : ∀ ds S Qv, F_p_is_tree ds S Qv → T_p_is_tree (endsV Qv) (stD 1 ds) S := by
  rintro ds S Qv ⟨w, m, d, rfl, hd, hm, hw, q⟩
  unfold T_p_is_tree
  walk_at "vs"
  refine ⟨w, m, d, rfl, hd, by show m ≤ 100; omega, hw, by show 100 ≤ 100; omega, ?_⟩
  refine chain_tree ?_
  exact fin_of q
theorem one_no {x y : D} {r : List D} : isOneD (.tup (x :: y :: r)) = false := by cases x <;> rfl
theorem node_shp {s : Str} {y : D} {ps : List D} : nodeD (.tup [.str s, y, .tup ps]) = shpOk s y ps := by cases y <;> rfl
end VL
namespace VL
open PySem PySem.Spec PyProof.Rows L2
def cutAt (C : List Nat) (k : Nat) : Nat := C.getD k 0
def sgk (ns : List Int) (C : List Nat) (k : Nat) : List Int := seg ns (cutAt C k) (cutAt C (k + 1))
structure Cut (n : Nat) (C : List Nat) : Prop where
  two : 2 ≤ C.length
  inc : C.Pairwise (· < ·)
  first : cutAt C 0 = 0
  last : cutAt C (C.length - 1) = n
theorem Cut.lt {n : Nat} {C : List Nat} (h : Cut n C) {i j : Nat} (hij : i < j) (hj : j < C.length) : cutAt C i < cutAt C j := inc_getD h.inc hij hj
theorem Cut.le {n : Nat} {C : List Nat} (h : Cut n C) {i j : Nat} (hij : i ≤ j) (hj : j < C.length) : cutAt C i ≤ cutAt C j := by
  by_cases e : i = j
  · rw [e]; exact Nat.le_refl _
  · exact Nat.le_of_lt (h.lt (by omega) hj)
theorem Cut.top {n : Nat} {C : List Nat} (h : Cut n C) {i : Nat} (hi : i < C.length) : cutAt C i ≤ n := by
  rw [← h.last]; exact h.le (by omega) (by have := h.two; omega)
theorem seg_app {ns : List Int} {a b c : Nat} (h1 : a ≤ b) (h2 : b ≤ c) : seg ns a b ++ seg ns b c = seg ns a c := by
  unfold seg
  have e : (ns.drop b) = (ns.drop a).drop (b - a) := by rw [List.drop_drop]; congr 1; omega
  rw [e, show c - a = (b - a) + (c - b) by omega, List.take_add]
theorem seg_all {ns : List Int} : seg ns 0 ns.length = ns := by unfold seg; rw [List.drop_zero, Nat.sub_zero, List.take_length]
theorem seg_upto {ns : List Int} {C : List Nat} (hc : Cut ns.length C) : ∀ k, k < C.length → (List.range k).flatMap (sgk ns C) = seg ns 0 (cutAt C k)
  | 0, _ => by
    rw [hc.first]
    unfold seg
    simp
  | k + 1, hk => by
    rw [List.range_succ, List.flatMap_append, seg_upto hc k (by omega)]
    simp only [List.flatMap_cons, List.flatMap_nil, List.append_nil]
    exact seg_app (Nat.zero_le _) (hc.le (by omega) hk)
theorem seg_flat {ns : List Int} {C : List Nat} (hc : Cut ns.length C) : (List.range (C.length - 1)).flatMap (sgk ns C) = ns := by
  rw [seg_upto hc (C.length - 1) (by have := hc.two; omega), hc.last, seg_all]
theorem row_rk {ns : List Int} (h : Row ns) {x : Int} (hx : x ∈ ns) : 1 + (rk ns x : Int) = x := by
  have e := shape_of_row h
  rw [shapeL_eq] at e
  have e2 : ns.map (fun x => 1 + (rk ns x : Int)) = ns.map id := by rw [e, List.map_id]
  exact List.map_inj_left.mp e2 x hx
theorem rk_flat (f : Nat → List Int) (x : Int) : ∀ l : List Nat, rk (l.flatMap f) x = (l.map fun j => rk (f j) x).sum
  | [] => rfl
  | a :: l => by
    have := rk_flat f x l
    unfold rk at this ⊢
    rw [List.flatMap_cons, List.filter_append, List.length_append, List.map_cons, List.sum_cons, this]
theorem sum_one {f g : Nat → Nat} {p : Nat → Bool} {k : Nat} (hk : p k = false) : ∀ l : List Nat, l.Nodup → (∀ j ∈ l, j ≠ k → f j = if p j = true then g j else 0) → k ∈ l → (l.map f).sum = f k + ((l.filter p).map g).sum
  | a :: l, hnd, h, hm => by
    have hnd' := List.nodup_cons.mp hnd
    have rest : ∀ l : List Nat, k ∉ l → (∀ j ∈ l, j ≠ k → f j = if p j = true then g j else 0) → (l.map f).sum = ((l.filter p).map g).sum := by
      intro l
      induction l with
      | nil => intro _ _; rfl
      | cons b l ih =>
        intro hn hb
        have := ih (fun z => hn (by simp [z])) (fun j hj => hb j (by simp [hj]))
        have hb2 := hb b (by simp) (fun z => hn (by simp [z]))
        rw [List.map_cons, List.sum_cons, hb2, this, List.filter_cons]
        cases hp : p b with
        | true => simp
        | false => simp
    rw [List.map_cons, List.sum_cons]
    by_cases e : a = k
    · subst e
      rw [rest l hnd'.1 fun j hj => h j (by simp [hj]), List.filter_cons, hk]
      simp
    · have hm2 : k ∈ l := by
        rcases List.mem_cons.mp hm with z | z
        · exact absurd z.symm e
        · exact z
      have ih := sum_one hk l hnd'.2 (fun j hj => h j (by simp [hj])) hm2
      rw [ih, h a (by simp) e, List.filter_cons]
      cases hp : p a with
      | true => simp; omega
      | false => simp
def partsL (ns : List Int) (C : List Nat) : List (List Int) := (List.range (C.length - 1)).map fun k => shapeL (sgk ns C k)
theorem sgk_mem {ns : List Int} {C : List Nat} (hc : Cut ns.length C) {k : Nat} (hk : k < C.length - 1) {x : Int} (hx : x ∈ sgk ns C k) : x ∈ ns := by
  rw [← seg_flat hc]
  exact List.mem_flatMap.mpr ⟨k, List.mem_range.mpr hk, hx⟩
theorem sgk_len {ns : List Int} {C : List Nat} (hc : Cut ns.length C) {k : Nat} (hk : k < C.length - 1) : (sgk ns C k).length = cutAt C (k + 1) - cutAt C k := seg_length (hc.top (by omega))
theorem glue_parts {ns sh : List Int} {C : List Nat} (hr : Row ns) (hc : Cut ns.length C)
    (hsep : ∀ i j, i < C.length - 1 → j < C.length - 1 → i ≠ j → ∀ x ∈ sgk ns C i, ∀ y ∈ sgk ns C j, (x < y ↔ sh.getD i 0 < sh.getD j 0)) : glue sh (partsL ns C) = ns := by
  have hpl : (partsL ns C).length = C.length - 1 := by unfold partsL; rw [List.length_map, List.length_range]
  have hget : ∀ k, k < C.length - 1 → (partsL ns C).getD k [] = shapeL (sgk ns C k) := fun k hk => by
    unfold partsL
    rw [List.getD_eq_getElem?_getD, List.getElem?_map, List.getElem?_range hk]
    rfl
  unfold glue
  rw [hpl]
  conv => rhs; rw [← seg_flat hc]
  rw [List.flatMap_def, List.flatMap_def]
  congr 1
  apply List.map_congr_left
  intro k hk
  have hk := List.mem_range.mp hk
  rw [hget k hk, shapeL_eq, List.map_map]
  conv => rhs; rw [← List.map_id (sgk ns C k)]
  apply List.map_congr_left
  intro x hx
  show 1 + (rk (sgk ns C k) x : Int) + liftOf sh (partsL ns C) k = x
  have h1 := row_rk hr (sgk_mem hc hk hx)
  have h2 : rk ns x = ((List.range (C.length - 1)).map fun j => rk (sgk ns C j) x).sum := by
    conv => lhs; rw [← seg_flat hc]
    exact rk_flat _ _ _
  have h3 := sum_one (f := fun j => rk (sgk ns C j) x) (g := fun j => (sgk ns C j).length) (p := fun j => decide (sh.getD j 0 < sh.getD k 0)) (k := k) (by simp) (List.range (C.length - 1)) List.nodup_range (fun j hj hne => by
    have hj := List.mem_range.mp hj
    show rk (sgk ns C j) x = _
    unfold rk
    by_cases hlt : sh.getD j 0 < sh.getD k 0
    · rw [if_pos (decide_eq_true hlt), List.filter_eq_self.mpr fun y hy => decide_eq_true ((hsep j k hj hk hne y hy x hx).mpr hlt)]
    · rw [if_neg (by rw [decide_eq_true_eq]; exact hlt), List.filter_eq_nil_iff.mpr fun y hy => by rw [decide_eq_true_eq]; exact fun z => hlt ((hsep j k hj hk hne y hy x hx).mp z)]
      rfl) (List.mem_range.mpr hk)
  have h4 : liftOf sh (partsL ns C) k = ((((List.range (C.length - 1)).filter fun j => decide (sh.getD j 0 < sh.getD k 0)).map fun j => (sgk ns C j).length).sum : Nat) := by
    unfold liftOf
    rw [hpl, natsum_cast, List.map_map]
    congr 1
    apply List.map_congr_left
    intro j hj
    have hj := List.mem_range.mp (List.mem_filter.mp hj).1
    rw [hget j hj, shapeL_length]
    rfl
  rw [h2, h3] at h1
  rw [h4]
  omega
theorem nd_len {l m : List Int} (h : l.Nodup) (hs : ∀ x ∈ l, x ∈ m) : l.length ≤ m.length := by
  by_cases hle : l.length ≤ m.length
  · exact hle
  · have := (perm_of_sub h hs (by omega)).length_eq
    omega
/-- the numbers from a to b -/
def span (a : Int) (n : Nat) : List Int := (List.range n).map fun i : Nat => a + (i : Int)
theorem mem_span {a x : Int} {n : Nat} : x ∈ span a n ↔ a ≤ x ∧ x < a + n := by
  unfold span
  rw [List.mem_map]
  constructor
  · rintro ⟨i, hi, rfl⟩
    have := List.mem_range.mp hi
    omega
  · intro h
    exact ⟨(x - a).toNat, List.mem_range.mpr (by omega), by omega⟩
theorem span_length (a : Int) (n : Nat) : (span a n).length = n := by simp [span]
theorem span_nodup (a : Int) (n : Nat) : (span a n).Nodup := (List.nodup_range).map (f := fun i : Nat => a + (i : Int)) fun i j h e => h (by have e : a + (i : Int) = a + j := e; omega)
/-- a stretch is whole just where all between its ends is there -/
theorem conv_of {s : List Int} (hd : s.Nodup) (hne : s ≠ []) (h : maxI s - minI s = (s.length : Int) - 1) : ∀ v, minI s ≤ v → v ≤ maxI s → v ∈ s := by
  intro v h1 h2
  have hp := perm_of_sub (l := s) (m := span (minI s) s.length) hd (fun x hx => mem_span.mpr (by have := minI_le hx; have := maxI_ge hx; omega)) (by rw [span_length]; exact Nat.le_refl _)
  exact hp.mem_iff.mp (mem_span.mpr (by omega))
theorem of_conv {s : List Int} (hd : s.Nodup) (hne : s ≠ []) (h : ∀ v, minI s ≤ v → v ≤ maxI s → v ∈ s) : maxI s - minI s = (s.length : Int) - 1 := by
  have h1 : minI s ≤ maxI s := maxI_ge (minI_mem hne)
  have h2 := nd_len (span_nodup (minI s) (maxI s - minI s + 1).toNat) (m := s) (fun x hx => h x (by have := mem_span.mp hx; omega) (by have := mem_span.mp hx; omega))
  have h3 := nd_len (l := s) (m := span (minI s) (maxI s - minI s + 1).toNat) hd (fun x hx => mem_span.mpr (by have := minI_le hx; have := maxI_ge hx; omega))
  rw [span_length] at h2 h3
  omega
end VL
namespace VL
open PySem PySem.Spec PyProof.Rows L2
def upTo (ns : List Int) (p : Nat) : Bool := decide (maxI (ns.take p) = (p : Int))
def riseL (ns : List Int) : List Nat := 0 :: ((List.range ns.length).filter fun i => upTo ns (i + 1)).map (· + 1)
theorem mem_rise {ns : List Int} {p : Nat} : p ∈ riseL ns ↔ p = 0 ∨ (1 ≤ p ∧ p ≤ ns.length ∧ upTo ns p = true) := by
  unfold riseL
  rw [List.mem_cons, List.mem_map]
  constructor
  · rintro (h | ⟨i, hi, rfl⟩)
    · exact .inl h
    · obtain ⟨h1, h2⟩ := List.mem_filter.mp hi
      have := List.mem_range.mp h1
      exact .inr ⟨by omega, by omega, h2⟩
  · rintro (h | ⟨h1, h2, h3⟩)
    · exact .inl h
    · refine .inr ⟨p - 1, List.mem_filter.mpr ⟨List.mem_range.mpr (by omega), ?_⟩, by omega⟩
      rw [show p - 1 + 1 = p by omega]; exact h3
theorem rise_inc (ns : List Int) : (riseL ns).Pairwise (· < ·) := by
  unfold riseL
  refine List.pairwise_cons.mpr ⟨fun x hx => ?_, ?_⟩
  · obtain ⟨i, _, rfl⟩ := List.mem_map.mp hx
    omega
  · rw [List.pairwise_map]
    exact (List.pairwise_lt_range.filter _).imp fun h => by omega
theorem low_of {ns : List Int} {p : Nat} (h : upTo ns p = true) : ∀ x ∈ ns.take p, x ≤ p := fun x hx => by
  have := of_decide_eq_true h
  have h2 := maxI_ge hx
  omega
/-- the first p numbers are the least ones -/
theorem of_low {ns : List Int} (hr : Row ns) {p : Nat} (h1 : 1 ≤ p) (hp : p ≤ ns.length) (h : ∀ x ∈ ns.take p, x ≤ p) : upTo ns p = true ∧ ∀ y ∈ ns.drop p, (p : Int) < y := by
  have hl : (ns.take p).length = p := by rw [List.length_take]; omega
  have hnd : (ns.take p).Nodup := hr.nodup.sublist (List.take_sublist _ _)
  have hperm := perm_of_sub (l := ns.take p) (m := upto p) hnd (fun x hx => mem_upto.mpr ⟨(hr.mem.mp (List.mem_of_mem_take hx)).1, h x hx⟩) (by rw [upto_length, hl]; exact Nat.le_refl _)
  constructor
  · refine decide_eq_true (maxI_of (hperm.mem_iff.mp (mem_upto.mpr ⟨by omega, Int.le_refl _⟩)) h)
  · intro y hy
    have hy1 := (hr.mem.mp (List.mem_of_mem_drop hy)).1
    by_cases hle : y ≤ p
    · have hy2 := hperm.mem_iff.mp (mem_upto.mpr ⟨hy1, hle⟩)
      have hsplit := hr.nodup
      rw [← List.take_append_drop p ns] at hsplit
      exact absurd rfl ((List.nodup_append.mp hsplit).2.2 y hy2 y hy)
    · omega
theorem rise_cut {ns : List Int} (hr : Row ns) (h1 : 1 ≤ ns.length) : Cut ns.length (riseL ns) := by
  have hend : ns.length ∈ riseL ns := mem_rise.mpr (.inr ⟨h1, Nat.le_refl _, (of_low hr h1 (Nat.le_refl _) fun x hx => (hr.mem.mp (List.mem_of_mem_take hx)).2).1⟩)
  have htwo : 2 ≤ (riseL ns).length := by
    unfold riseL at hend ⊢
    rcases List.mem_cons.mp hend with h | h
    · omega
    · have := List.length_pos_of_mem h
      rw [List.length_cons]; omega
  refine ⟨htwo, rise_inc ns, rfl, ?_⟩
  obtain ⟨i, hi, e⟩ := List.mem_iff_getElem.mp hend
  have e2 : cutAt (riseL ns) i = ns.length := by unfold cutAt; rw [List.getD_eq_getElem?_getD, List.getElem?_eq_getElem hi, e]; rfl
  have hmem : cutAt (riseL ns) ((riseL ns).length - 1) ∈ riseL ns := getD_mem (by omega)
  have hle : cutAt (riseL ns) ((riseL ns).length - 1) ≤ ns.length := by
    rcases mem_rise.mp hmem with h | h
    · omega
    · exact h.2.1
  by_cases hii : i = (riseL ns).length - 1
  · rw [← hii]; exact e2
  · have := inc_getD (rise_inc ns) (show i < (riseL ns).length - 1 by omega) (by omega)
    unfold cutAt at e2 hle ⊢
    omega
theorem cut_between {C : List Nat} {p k : Nat} (hi : C.Pairwise (· < ·)) (hp : p ∈ C) (hk : k + 1 < C.length) (h1 : cutAt C k < p) (h2 : p < cutAt C (k + 1)) : False := by
  obtain ⟨i, hi2, e⟩ := List.mem_iff_getElem.mp hp
  have e2 : cutAt C i = p := by unfold cutAt; rw [List.getD_eq_getElem?_getD, List.getElem?_eq_getElem hi2, e]; rfl
  rcases Nat.lt_trichotomy i k with h | h | h
  · have := inc_getD hi h (by omega)
    unfold cutAt at *
    omega
  · subst h; omega
  · by_cases h3 : i = k + 1
    · subst h3; omega
    · have := inc_getD hi (show k + 1 < i by omega) hi2
      unfold cutAt at *
      omega
theorem seg_take {ns : List Int} {a b : Nat} {x : Int} (hx : x ∈ seg ns a b) (hab : a ≤ b) : x ∈ ns.take b := by
  unfold seg at hx
  rw [show b = a + (b - a) by omega, List.take_add]
  exact List.mem_append_right _ hx
theorem seg_drop {ns : List Int} {a b : Nat} {x : Int} (hx : x ∈ seg ns a b) {c : Nat} (hca : c ≤ a) : x ∈ ns.drop c := by
  unfold seg at hx
  have h1 := List.mem_of_mem_take hx
  rw [show a = c + (a - c) by omega, ← List.drop_drop] at h1
  exact List.mem_of_mem_drop h1
theorem cutAt_mem {C : List Nat} {k : Nat} (hk : k < C.length) : cutAt C k ∈ C := getD_mem hk
theorem rise_low {ns : List Int} (hr : Row ns) {k : Nat} (hk : k < (riseL ns).length) : (∀ x ∈ ns.take (cutAt (riseL ns) k), x ≤ (cutAt (riseL ns) k : Nat)) ∧ ∀ y ∈ ns.drop (cutAt (riseL ns) k), ((cutAt (riseL ns) k : Nat) : Int) < y := by
  rcases mem_rise.mp (cutAt_mem hk) with h | ⟨h1, h2, h3⟩
  · rw [h]
    refine ⟨fun x hx => by simp at hx, fun y hy => ?_⟩
    have := hr.mem.mp (List.mem_of_mem_drop hy)
    omega
  · have := low_of h3
    exact ⟨this, (of_low hr h1 h2 this).2⟩
theorem rise_sep {ns : List Int} (hr : Row ns) (h1 : 1 ≤ ns.length) {i j : Nat} (hij : i < j) (hj : j < (riseL ns).length - 1) {x y : Int} (hx : x ∈ sgk ns (riseL ns) i) (hy : y ∈ sgk ns (riseL ns) j) : x < y := by
  have hc := rise_cut hr h1
  have a := (rise_low hr (k := j) (by omega)).1 x (by
    have h2 := hc.le (i := i + 1) (j := j) (by omega) (by omega)
    have h3 := seg_take hx (hc.le (Nat.le_succ i) (by omega))
    rw [show cutAt (riseL ns) j = cutAt (riseL ns) (i + 1) + (cutAt (riseL ns) j - cutAt (riseL ns) (i + 1)) by omega, List.take_add]
    exact List.mem_append_left _ h3)
  have b := (rise_low hr (k := j) (by omega)).2 y (seg_drop hy (Nat.le_refl _))
  omega
theorem rise_glue {ns : List Int} (hr : Row ns) (h1 : 1 ≤ ns.length) : glue (upto ((riseL ns).length - 1)) (partsL ns (riseL ns)) = ns := by
  refine glue_parts hr (rise_cut hr h1) fun i j hi hj hne x hx y hy => ?_
  rw [upto_getD hi, upto_getD hj]
  rcases Nat.lt_or_ge i j with h | h
  · have := rise_sep hr h1 h hj hx hy
    exact ⟨fun _ => by omega, fun _ => this⟩
  · have := rise_sep hr h1 (show j < i by omega) hi hy hx
    exact ⟨fun _ => by omega, fun _ => by omega⟩
theorem rk_app (l m : List Int) (x : Int) : rk (l ++ m) x = rk l x + rk m x := by unfold rk; rw [List.filter_append, List.length_append]
theorem rk_le (l : List Int) (x : Int) : rk l x ≤ l.length := List.length_filter_le _ _
theorem rk_zero {l : List Int} {x : Int} (h : ∀ y ∈ l, x ≤ y) : rk l x = 0 := by
  unfold rk
  rw [List.filter_eq_nil_iff.mpr fun y hy => by rw [decide_eq_true_eq]; have := h y hy; omega]
  rfl
/-- no part of a rise is a rise again -/
theorem rise_part {ns : List Int} (hr : Row ns) (h1 : 1 ≤ ns.length) {k : Nat} (hk : k < (riseL ns).length - 1) : (riseL (shapeL (sgk ns (riseL ns) k))).length ≤ 2 := by
  have hc := rise_cut hr h1
  have hlt : cutAt (riseL ns) k < cutAt (riseL ns) (k + 1) := hc.lt (by omega) (by omega)
  have htop := hc.top (i := k + 1) (by omega)
  have hlen : (sgk ns (riseL ns) k).length = cutAt (riseL ns) (k + 1) - cutAt (riseL ns) k := sgk_len hc hk
  have hnone : ∀ q, 1 ≤ q → q < (sgk ns (riseL ns) k).length → q ∉ riseL (shapeL (sgk ns (riseL ns) k)) := by
    intro q hq1 hq2 hm
    rcases mem_rise.mp hm with h | ⟨_, _, h3⟩
    · omega
    · have hlow := low_of h3
      refine cut_between (k := k) (rise_inc ns) (p := cutAt (riseL ns) k + q) (mem_rise.mpr (.inr ⟨by omega, by omega, ?_⟩)) (by omega) (by omega) (by omega)
      refine (of_low hr (by omega) (by omega) fun x hx => ?_).1
      rw [List.take_add] at hx
      rcases List.mem_append.mp hx with hx | hx
      · have := (rise_low hr (k := k) (by omega)).1 x hx
        omega
      · -- x among the first q of the part
        have hxs : x ∈ (sgk ns (riseL ns) k).take q := by
          show x ∈ ((ns.drop (cutAt (riseL ns) k)).take (cutAt (riseL ns) (k + 1) - cutAt (riseL ns) k)).take q
          rw [List.take_take, Nat.min_eq_left (by omega)]
          exact hx
        have hrkq : 1 + (rk (sgk ns (riseL ns) k) x : Int) ≤ q := by
          refine hlow _ ?_
          rw [shapeL_eq, ← List.map_take]
          exact List.mem_map.mpr ⟨x, hxs, rfl⟩
        have hxn := row_rk hr (List.mem_of_mem_drop (List.mem_of_mem_take hx))
        have hsplit : ns = ns.take (cutAt (riseL ns) k) ++ (sgk ns (riseL ns) k ++ ns.drop (cutAt (riseL ns) (k + 1))) := by
          conv => lhs; rw [← List.take_append_drop (cutAt (riseL ns) k) ns]
          congr 1
          show ns.drop (cutAt (riseL ns) k) = (ns.drop (cutAt (riseL ns) k)).take (cutAt (riseL ns) (k + 1) - cutAt (riseL ns) k) ++ ns.drop (cutAt (riseL ns) (k + 1))
          conv => lhs; rw [← List.take_append_drop (cutAt (riseL ns) (k + 1) - cutAt (riseL ns) k) (ns.drop (cutAt (riseL ns) k))]
          rw [List.drop_drop]
          congr 2
          omega
        have e1 : rk ns x = rk (ns.take (cutAt (riseL ns) k)) x + (rk (sgk ns (riseL ns) k) x + rk (ns.drop (cutAt (riseL ns) (k + 1))) x) := by
          conv => lhs; rw [hsplit]
          rw [rk_app, rk_app]
        have e2 := rk_le (ns.take (cutAt (riseL ns) k)) x
        have e3 : (ns.take (cutAt (riseL ns) k)).length = cutAt (riseL ns) k := by rw [List.length_take]; omega
        have e4 : rk (ns.drop (cutAt (riseL ns) (k + 1))) x = 0 := rk_zero fun y hy => by
          have a := (rise_low hr (k := k + 1) (by omega)).2 y hy
          have b := (rise_low hr (k := k + 1) (by omega)).1 x (by
            have h7 : x ∈ sgk ns (riseL ns) k := List.mem_of_mem_take hxs
            exact seg_take h7 (by omega))
          omega
        rw [e1, e4] at hxn
        omega
  -- so only 0 and the end are cuts
  have hsub : ∀ q ∈ riseL (shapeL (sgk ns (riseL ns) k)), q = 0 ∨ q = (sgk ns (riseL ns) k).length := by
    intro q hq
    rcases mem_rise.mp hq with h | ⟨h4, h5, _⟩
    · exact .inl h
    · rw [shapeL_length] at h5
      by_cases h6 : q = (sgk ns (riseL ns) k).length
      · exact .inr h6
      · exact absurd hq (hnone q h4 (by omega))
  have hinc := rise_inc (shapeL (sgk ns (riseL ns) k))
  generalize riseL (shapeL (sgk ns (riseL ns) k)) = L at hsub hinc
  match L, hsub, hinc with
  | [], _, _ => simp
  | [a], _, _ => simp
  | [a, b], _, _ => simp
  | a :: b :: c :: r, hsub, hinc =>
    have p1 := List.pairwise_cons.mp hinc
    have p2 := List.pairwise_cons.mp p1.2
    have i1 := p1.1 b (by simp)
    have i2 := p2.1 c (by simp)
    rcases hsub b (by simp) with h | h
    · omega
    · rcases hsub c (by simp) with h' | h'
      · omega
      · omega
end VL
namespace VL
open PySem PySem.Spec PyProof.Rows L2
theorem seg_map {f : Int → Int} {ns : List Int} {a b : Nat} : seg (ns.map f) a b = (seg ns a b).map f := by unfold seg; rw [← List.map_drop, ← List.map_take]
theorem over_seg {ns : List Int} {C : List Nat} {k : Nat} : sgk (overL ns) C k = (sgk ns C k).map fun i => (ns.length : Int) + 1 - i := by unfold sgk overL; rw [seg_map]
theorem over_shape {s : List Int} (hd : s.Nodup) (c : Int) : overL (shapeL s) = shapeL (s.map fun i => c - i) := by
  have h1 := shape_of_row (over_row (shape_row hd))
  rw [← h1]
  have e : overL (shapeL s) = s.map fun x => ((s.length : Int) + 1 - (1 + (rk s x : Int))) := by
    unfold overL
    rw [shapeL_length, shapeL_eq, List.map_map]
    rfl
  rw [e]
  refine shape_congr fun x hx y hy => ?_
  have := rk_lt (ns := s) (x := y) (y := x) hy
  constructor <;> intro h
  · have : rk s y < rk s x := by omega
    have := (rk_lt hy).mp this
    omega
  · have : rk s y < rk s x := (rk_lt hy).mpr (by omega)
    omega
theorem sgk_nodup {ns : List Int} {C : List Nat} {k : Nat} (h : ns.Nodup) : (sgk ns C k).Nodup := h.sublist ((List.take_sublist _ _).trans (List.drop_sublist _ _))
theorem down_getD {m j : Nat} (h : j < m) : (runSh false m).getD j 0 = (m : Int) - j := by
  unfold runSh
  rw [if_neg (by decide), List.getD_eq_getElem?_getD, List.getElem?_map, List.getElem?_range h]
  rfl
theorem fall_glue {ns : List Int} (hr : Row ns) (h1 : 1 ≤ ns.length) : glue (runSh false ((riseL (overL ns)).length - 1)) (partsL ns (riseL (overL ns))) = ns := by
  have hc := rise_cut (over_row hr) (by rw [over_length]; exact h1)
  rw [over_length] at hc
  have sep : ∀ i j, i < j → j < (riseL (overL ns)).length - 1 → ∀ x ∈ sgk ns (riseL (overL ns)) i, ∀ y ∈ sgk ns (riseL (overL ns)) j, y < x := fun i j hij hj x hx y hy => by
    have := rise_sep (over_row hr) (by rw [over_length]; exact h1) hij hj (x := (ns.length : Int) + 1 - x) (y := (ns.length : Int) + 1 - y)
      (by rw [over_seg]; exact List.mem_map.mpr ⟨x, hx, rfl⟩) (by rw [over_seg]; exact List.mem_map.mpr ⟨y, hy, rfl⟩)
    omega
  refine glue_parts hr hc fun i j hi hj hne x hx y hy => ?_
  rw [down_getD hi, down_getD hj]
  rcases Nat.lt_or_ge i j with h | h
  · have := sep i j h hj x hx y hy
    exact ⟨fun _ => by omega, fun _ => by omega⟩
  · have := sep j i (by omega) hi y hy x hx
    exact ⟨fun _ => by omega, fun _ => this⟩
theorem fall_part {ns : List Int} (hr : Row ns) (h1 : 1 ≤ ns.length) {k : Nat} (hk : k < (riseL (overL ns)).length - 1) : (riseL (overL (shapeL (sgk ns (riseL (overL ns)) k)))).length ≤ 2 := by
  rw [over_shape (sgk_nodup hr.nodup) ((ns.length : Int) + 1), ← over_seg]
  exact rise_part (over_row hr) (by rw [over_length]; exact h1) hk
def nextB (ns : List Int) (b : Nat) : Nat := (maxI (((b + 1 : Nat) : Int) :: ((endsL ns b).filter fun e => decide (e - b < ns.length)).map fun e : Nat => (e : Int))).toNat
theorem next_list (ns : List Int) (b : Nat) : maxI (((b + 1 : Nat) : Int) :: ((endsL ns b).filter fun e => decide (e - b < ns.length)).map fun e : Nat => (e : Int)) = (nextB ns b : Nat) := by
  have h := maxI_mem (ns := ((b + 1 : Nat) : Int) :: ((endsL ns b).filter fun e => decide (e - b < ns.length)).map fun e : Nat => (e : Int)) (by simp)
  unfold nextB
  rcases List.mem_cons.mp h with h | h
  · rw [h]; omega
  · obtain ⟨e, _, he⟩ := List.mem_map.mp h
    rw [← he]; omega
theorem next_is (ns : List Int) (b : Nat) : nextB ns b = b + 1 ∨ (nextB ns b ∈ endsL ns b ∧ nextB ns b - b < ns.length) := by
  have h := maxI_mem (ns := ((b + 1 : Nat) : Int) :: ((endsL ns b).filter fun e => decide (e - b < ns.length)).map fun e : Nat => (e : Int)) (by simp)
  rw [next_list] at h
  rcases List.mem_cons.mp h with h | h
  · exact .inl (by omega)
  · obtain ⟨e, he, h2⟩ := List.mem_map.mp h
    have : e = nextB ns b := by omega
    subst this
    obtain ⟨a, b⟩ := List.mem_filter.mp he
    exact .inr ⟨a, of_decide_eq_true b⟩
theorem next_gt (ns : List Int) (b : Nat) : b < nextB ns b := by
  have h := maxI_ge (ns := ((b + 1 : Nat) : Int) :: ((endsL ns b).filter fun e => decide (e - b < ns.length)).map fun e : Nat => (e : Int)) (y := ((b + 1 : Nat) : Int)) (by simp)
  rw [next_list] at h
  omega
theorem next_max {ns : List Int} {b e : Nat} (h1 : e ∈ endsL ns b) (h2 : e - b < ns.length) : e ≤ nextB ns b := by
  have h := maxI_ge (ns := ((b + 1 : Nat) : Int) :: ((endsL ns b).filter fun e => decide (e - b < ns.length)).map fun e : Nat => (e : Int)) (y := (e : Int)) (List.mem_cons_of_mem _ (List.mem_map.mpr ⟨e, List.mem_filter.mpr ⟨h1, decide_eq_true h2⟩, rfl⟩))
  rw [next_list] at h
  omega
theorem next_le {ns : List Int} {b : Nat} (h : b < ns.length) : nextB ns b ≤ ns.length := by
  rcases next_is ns b with e | ⟨e, _⟩
  · omega
  · exact (mem_ends.mp e).2.1
def blockN (ns : List Int) : Nat → Nat → List Nat
  | 0, b => [b]
  | n + 1, b => if b < ns.length then b :: blockN ns n (nextB ns b) else [b]
def blockL (ns : List Int) : List Nat := blockN ns ns.length 0
structure BlkOk (ns : List Int) (b : Nat) (C : List Nat) : Prop where
  ne : C ≠ []
  inc : C.Pairwise (· < ·)
  first : cutAt C 0 = b
  last : cutAt C (C.length - 1) = ns.length
  step : ∀ k, k + 1 < C.length → cutAt C (k + 1) = nextB ns (cutAt C k)
theorem block_ok {ns : List Int} : ∀ n b, b ≤ ns.length → ns.length ≤ b + n → BlkOk ns b (blockN ns n b)
  | 0, b, h1, h2 => ⟨by simp [blockN], by simp [blockN], rfl, by show b = ns.length; omega, fun k hk => by simp [blockN] at hk⟩
  | n + 1, b, h1, h2 => by
    unfold blockN
    by_cases hb : b < ns.length
    · rw [if_pos hb]
      have hg := next_gt ns b
      have ih := block_ok n (nextB ns b) (next_le hb) (by omega)
      have hlen : 1 ≤ (blockN ns n (nextB ns b)).length := List.length_pos_iff.mpr ih.ne
      refine ⟨by simp, ?_, rfl, ?_, fun k hk => ?_⟩
      · refine List.pairwise_cons.mpr ⟨fun x hx => ?_, ih.inc⟩
        obtain ⟨i, hi, e⟩ := List.mem_iff_getElem.mp hx
        have e2 : cutAt (blockN ns n (nextB ns b)) i = x := by unfold cutAt; rw [List.getD_eq_getElem?_getD, List.getElem?_eq_getElem hi, e]; rfl
        have h0 := ih.first
        by_cases hi0 : i = 0
        · subst hi0; omega
        · have := inc_getD ih.inc (show 0 < i by omega) hi
          unfold cutAt at *
          omega
      · have := ih.last
        unfold cutAt at *
        rw [List.length_cons, Nat.add_sub_cancel]
        rw [show (blockN ns n (nextB ns b)).length = (blockN ns n (nextB ns b)).length - 1 + 1 by omega, List.getD_cons_succ]
        exact this
      · cases k with
        | zero =>
          have := ih.first
          unfold cutAt at *
          rw [List.getD_cons_succ, this]
          rfl
        | succ k =>
          have := ih.step k (by simpa using hk)
          unfold cutAt at *
          rw [List.getD_cons_succ, List.getD_cons_succ]
          exact this
    · rw [if_neg hb]
      exact ⟨by simp, by simp, rfl, by show b = ns.length; omega, fun k hk => by simp at hk⟩
theorem block_cut {ns : List Int} (h1 : 1 ≤ ns.length) : Cut ns.length (blockL ns) ∧ ∀ k, k + 1 < (blockL ns).length → cutAt (blockL ns) (k + 1) = nextB ns (cutAt (blockL ns) k) := by
  have h := block_ok (ns := ns) ns.length 0 (Nat.zero_le _) (by omega)
  refine ⟨⟨?_, h.inc, h.first, h.last⟩, h.step⟩
  have h2 := h.last
  have h3 := h.first
  have h4 := List.length_pos_iff.mpr h.ne
  show 2 ≤ (blockN ns ns.length 0).length
  by_cases hl : (blockN ns ns.length 0).length = 1
  · rw [hl] at h2
    have : cutAt (blockN ns ns.length 0) (1 - 1) = cutAt (blockN ns ns.length 0) 0 := rfl
    omega
  · omega
theorem block_conv {ns : List Int} (hr : Row ns) (h1 : 1 ≤ ns.length) {k : Nat} (hk : k < (blockL ns).length - 1) : ∀ a ∈ sgk ns (blockL ns) k, ∀ c ∈ sgk ns (blockL ns) k, ∀ v, a ≤ v → v ≤ c → v ∈ sgk ns (blockL ns) k := by
  obtain ⟨hc, hs⟩ := block_cut h1
  intro a ha c hc2 v h2 h3
  have hst := hs k (by omega)
  have hlt := hc.lt (i := k) (j := k + 1) (by omega) (by omega)
  have htop := hc.top (i := k + 1) (by omega)
  rcases next_is ns (cutAt (blockL ns) k) with e | ⟨e, _⟩
  · -- a single one
    have hx : ns[cutAt (blockL ns) k]? = some ns[cutAt (blockL ns) k] := List.getElem?_eq_getElem (by omega)
    have e2 : sgk ns (blockL ns) k = [ns[cutAt (blockL ns) k]] := by
      unfold sgk
      rw [hst, e]
      exact seg_one hx
    rw [e2] at ha hc2 ⊢
    rw [List.mem_singleton] at *
    omega
  · rw [← hst] at e
    have hb := of_decide_eq_true (mem_ends.mp e).2.2
    have hlen : (sgk ns (blockL ns) k).length = cutAt (blockL ns) (k + 1) - cutAt (blockL ns) k := sgk_len hc hk
    refine conv_of (sgk_nodup hr.nodup) (seg_ne htop hlt) ?_ v ?_ ?_
    · rw [hlen]
      show maxI (seg ns _ _) - minI (seg ns _ _) = _
      omega
    · exact Int.le_trans (minI_le ha) h2
    · exact Int.le_trans h3 (maxI_ge hc2)
theorem start_mem {ns : List Int} {C : List Nat} (hc : Cut ns.length C) {k : Nat} (hk : k < C.length - 1) : at0 ns (cutAt C k) ∈ sgk ns C k := by
  have hlt := hc.lt (i := k) (j := k + 1) (by omega) (by omega)
  have htop := hc.top (i := k + 1) (by omega)
  rw [at0_get (by omega)]
  unfold sgk seg
  rw [List.drop_eq_getElem_cons (by omega), show cutAt C (k + 1) - cutAt C k = (cutAt C (k + 1) - cutAt C k - 1) + 1 by omega, List.take_succ_cons]
  exact List.mem_cons_self
theorem sgk_apart {ns : List Int} {C : List Nat} (hd : ns.Nodup) (hc : Cut ns.length C) {i j : Nat} (hi : i < C.length - 1) (hj : j < C.length - 1) (hne : i ≠ j) {x : Int} (hx : x ∈ sgk ns C i) (hy : x ∈ sgk ns C j) : False := by
  have h : ((List.range (C.length - 1)).flatMap (sgk ns C)).Nodup := by rw [seg_flat hc]; exact hd
  rw [List.Nodup, List.pairwise_flatMap] at h
  have key : ∀ a b, a < b → b < C.length - 1 → x ∈ sgk ns C a → x ∈ sgk ns C b → False := fun a b hab hb ha hb2 => by
    have := List.pairwise_iff_getElem.mp h.2 a b (by rw [List.length_range]; omega) (by rw [List.length_range]; omega) hab
    rw [List.getElem_range, List.getElem_range] at this
    exact this x ha x hb2 rfl
  rcases Nat.lt_or_ge i j with h2 | h2
  · exact key i j h2 hj hx hy
  · exact key j i (by omega) hi hy hx
theorem block_sep {ns : List Int} (hr : Row ns) (h1 : 1 ≤ ns.length) {i j : Nat} (hi : i < (blockL ns).length - 1) (hj : j < (blockL ns).length - 1) (hne : i ≠ j) {x y : Int} (hx : x ∈ sgk ns (blockL ns) i) (hy : y ∈ sgk ns (blockL ns) j) :
    (x < y ↔ at0 ns (cutAt (blockL ns) i) < at0 ns (cutAt (blockL ns) j)) := by
  obtain ⟨hc, hs⟩ := block_cut h1
  have key : ∀ {i j : Nat}, i < (blockL ns).length - 1 → j < (blockL ns).length - 1 → i ≠ j → ∀ {x y : Int}, x ∈ sgk ns (blockL ns) i → y ∈ sgk ns (blockL ns) j → at0 ns (cutAt (blockL ns) i) < at0 ns (cutAt (blockL ns) j) → x < y := by
    intro i j hi hj hne x y hx hy hlt
    have si := start_mem hc hi
    have sj := start_mem hc hj
    by_cases h : x < y
    · exact h
    · by_cases h2 : at0 ns (cutAt (blockL ns) j) ≤ x
      · exact (sgk_apart hr.nodup hc hi hj hne (block_conv hr h1 hi _ si _ hx _ (by omega) h2) sj).elim
      · exact (sgk_apart hr.nodup hc hi hj hne hx (block_conv hr h1 hj _ hy _ sj x (by omega) (by omega))).elim
  constructor
  · intro hxy
    by_cases h : at0 ns (cutAt (blockL ns) i) < at0 ns (cutAt (blockL ns) j)
    · exact h
    · have hne2 : at0 ns (cutAt (blockL ns) i) ≠ at0 ns (cutAt (blockL ns) j) := fun e => sgk_apart hr.nodup hc hi hj hne (start_mem hc hi) (by rw [e]; exact start_mem hc hj)
      have := key hj hi (Ne.symm hne) hy hx (by omega)
      omega
  · exact key hi hj hne hx hy
/-- how the blocks stand to one another -/
def startsL (ns : List Int) : List Nat := (blockL ns).dropLast
def quoL (ns : List Int) : List Int := shapeL ((startsL ns).map (at0 ns))
theorem starts_len (ns : List Int) : (startsL ns).length = (blockL ns).length - 1 := by unfold startsL; rw [List.length_dropLast]
theorem starts_at {ns : List Int} {k : Nat} (hk : k < (blockL ns).length - 1) : (startsL ns).getD k 0 = cutAt (blockL ns) k := by
  unfold startsL cutAt
  rw [List.getD_eq_getElem?_getD, List.getD_eq_getElem?_getD, List.getElem?_dropLast, if_pos hk]
theorem quo_len (ns : List Int) : (quoL ns).length = (blockL ns).length - 1 := by unfold quoL; rw [shapeL_length, List.length_map, starts_len]
theorem quo_lt {ns : List Int} {i j : Nat} (hi : i < (blockL ns).length - 1) (hj : j < (blockL ns).length - 1) : ((quoL ns).getD i 0 < (quoL ns).getD j 0 ↔ at0 ns (cutAt (blockL ns) i) < at0 ns (cutAt (blockL ns) j)) := by
  have h := shape_lt (ns := (startsL ns).map (at0 ns)) (i := i) (j := j) (by rw [List.length_map, starts_len]; exact hi) (by rw [List.length_map, starts_len]; exact hj)
  rw [at0_mapE (by rw [starts_len]; exact hi), at0_mapE (by rw [starts_len]; exact hj), starts_at hi, starts_at hj] at h
  exact h
theorem block_glue {ns : List Int} (hr : Row ns) (h1 : 1 ≤ ns.length) : glue (quoL ns) (partsL ns (blockL ns)) = ns :=
  glue_parts hr (block_cut h1).1 fun i j hi hj hne x hx y hy => by rw [quo_lt hi hj]; exact block_sep hr h1 hi hj hne hx hy
end VL
namespace VL
open PySem PySem.Spec PyProof.Rows L2
theorem two_ends {ns : List Int} (hr : Row ns) (h1 : 1 ≤ ns.length) (h2 : (riseL ns).length ≤ 2) : ∀ p ∈ riseL ns, p = 0 ∨ p = ns.length := by
  have hc := rise_cut hr h1
  intro p hp
  obtain ⟨i, hi, e⟩ := List.mem_iff_getElem.mp hp
  have e2 : cutAt (riseL ns) i = p := by unfold cutAt; rw [List.getD_eq_getElem?_getD, List.getElem?_eq_getElem hi, e]; rfl
  have := hc.two
  have hlast := hc.last
  have hfirst := hc.first
  have h3 : (riseL ns).length - 1 = 1 := by omega
  rw [h3] at hlast
  have : i = 0 ∨ i = 1 := by omega
  rcases this with rfl | rfl
  · exact .inl (by omega)
  · exact .inr (by omega)
theorem quo_row {ns : List Int} (hr : Row ns) (h1 : 1 ≤ ns.length) : Row (quoL ns) := by
  obtain ⟨hc, _⟩ := block_cut h1
  unfold quoL
  refine shape_row (nodup_at0 fun i j hij hj e => ?_)
  rw [List.length_map, starts_len] at hj
  rw [at0_mapE (by rw [starts_len]; omega), at0_mapE (by rw [starts_len]; exact hj), starts_at (by omega), starts_at hj] at e
  exact sgk_apart hr.nodup hc (show i < _ by omega) hj (by omega) (start_mem hc (by omega)) (by rw [e]; exact start_mem hc hj)
/-- what stands between two cuts stands in a part between -/
theorem seg_parts {ns : List Int} {C : List Nat} (hc : Cut ns.length C) {x : Int} : ∀ {j : Nat}, j < C.length → ∀ {i : Nat}, i ≤ j → (x ∈ seg ns (cutAt C i) (cutAt C j) ↔ ∃ k, i ≤ k ∧ k < j ∧ x ∈ sgk ns C k)
  | 0, hj, i, hi => by
    obtain rfl : i = 0 := by omega
    constructor
    · intro h; unfold seg at h; simp at h
    · rintro ⟨k, _, h, _⟩; omega
  | j + 1, hj, i, hi => by
    by_cases e : i = j + 1
    · subst e
      constructor
      · intro h; unfold seg at h; simp at h
      · rintro ⟨k, _, h, _⟩; omega
    · have ih := seg_parts hc (x := x) (j := j) (by omega) (i := i) (by omega)
      rw [← seg_app (hc.le (show i ≤ j by omega) (by omega)) (hc.le (Nat.le_succ j) hj), List.mem_append, ih]
      constructor
      · rintro (⟨k, h1, h2, h3⟩ | h)
        · exact ⟨k, h1, by omega, h3⟩
        · exact ⟨j, by omega, by omega, h⟩
      · rintro ⟨k, h1, h2, h3⟩
        by_cases hk : k = j
        · subst hk; exact .inr h3
        · exact .inl ⟨k, h1, by omega, h3⟩
theorem in_part {ns : List Int} {C : List Nat} (hc : Cut ns.length C) {x : Int} (hx : x ∈ ns) : ∃ k, k < C.length - 1 ∧ x ∈ sgk ns C k := by
  rw [← seg_flat hc] at hx
  obtain ⟨k, hk, h⟩ := List.mem_flatMap.mp hx
  exact ⟨k, List.mem_range.mp hk, h⟩
theorem seg_at {ns : List Int} {a b k : Nat} (h1 : a ≤ k) (h2 : k < b) (h3 : b ≤ ns.length) : at0 ns k ∈ seg ns a b := by
  unfold seg
  rw [at0_get (by omega)]
  refine List.mem_iff_getElem.mpr ⟨k - a, by rw [List.length_take, List.length_drop]; omega, ?_⟩
  rw [List.getElem_take, List.getElem_drop]
  congr 1
  omega
theorem seg_is {ns : List Int} {a b : Nat} {x : Int} (h : x ∈ seg ns a b) (h3 : b ≤ ns.length) : ∃ k, a ≤ k ∧ k < b ∧ x = at0 ns k := by
  unfold seg at h
  obtain ⟨i, hi, e⟩ := List.mem_iff_getElem.mp h
  rw [List.length_take, List.length_drop] at hi
  rw [List.getElem_take, List.getElem_drop] at e
  exact ⟨a + i, by omega, by omega, by rw [at0_get (by omega), e]⟩
theorem quo_free {ns : List Int} (hr : Row ns) (h1 : 1 ≤ ns.length) : blocked (quoL ns) = false := by
  rw [Bool.eq_false_iff]
  intro hb
  obtain ⟨i, j, hij, hjl, hbl, hlt⟩ := blocked_iff.mp hb
  obtain ⟨hc, hs⟩ := block_cut h1
  have hql := quo_len ns
  have hqr := quo_row hr h1
  rw [hql] at hjl hlt
  have hC := hc.lt (i := i) (j := j) (by omega) (by omega)
  have hC1 := hc.lt (i := i + 1) (j := j) (by omega) (by omega)
  have htop := hc.top (i := j) (by omega)
  -- the stretch of places
  have hnd : (seg ns (cutAt (blockL ns) i) (cutAt (blockL ns) j)).Nodup := hr.nodup.sublist ((List.take_sublist _ _).trans (List.drop_sublist _ _))
  have hne : seg ns (cutAt (blockL ns) i) (cutAt (blockL ns) j) ≠ [] := seg_ne htop hC
  have hqne : seg (quoL ns) i j ≠ [] := seg_ne (by rw [hql]; omega) (by omega)
  have hqnd : (seg (quoL ns) i j).Nodup := hqr.nodup.sublist ((List.take_sublist _ _).trans (List.drop_sublist _ _))
  have hqb := of_decide_eq_true hbl
  have hqc := conv_of hqnd hqne (by rw [seg_length (by rw [hql]; omega)]; omega)
  have hconv := of_conv hnd hne (fun v hv1 hv2 => by
    have hmin := minI_mem hne
    have hmax := maxI_mem hne
    obtain ⟨a, ha1, ha2, ha3⟩ := (seg_parts hc (by omega) (by omega)).mp hmin
    obtain ⟨b, hb1, hb2, hb3⟩ := (seg_parts hc (by omega) (by omega)).mp hmax
    have hm1 := hr.mem.mp (sgk_mem hc (by omega) ha3)
    have hm2 := hr.mem.mp (sgk_mem hc (by omega) hb3)
    obtain ⟨k, hk, hvk⟩ := in_part hc (x := v) (hr.mem.mpr ⟨by omega, by omega⟩)
    refine (seg_parts hc (by omega) (by omega)).mpr ?_
    by_cases hin : i ≤ k ∧ k < j
    · exact ⟨k, hin.1, hin.2, hvk⟩
    · have hka : a ≠ k := fun e => hin (by omega)
      have hkb : k ≠ b := fun e => hin (by omega)
      have hlt1 : minI (seg ns (cutAt (blockL ns) i) (cutAt (blockL ns) j)) < v := by
        have : minI (seg ns (cutAt (blockL ns) i) (cutAt (blockL ns) j)) ≠ v := fun e => sgk_apart hr.nodup hc (by omega) hk hka ha3 (by rw [e]; exact hvk)
        omega
      have hlt2 : v < maxI (seg ns (cutAt (blockL ns) i) (cutAt (blockL ns) j)) := by
        have : v ≠ maxI (seg ns (cutAt (blockL ns) i) (cutAt (blockL ns) j)) := fun e => sgk_apart hr.nodup hc hk (by omega) hkb hvk (by rw [e]; exact hb3)
        omega
      have q1 := (quo_lt (by omega) hk).mpr ((block_sep hr h1 (by omega) hk hka ha3 hvk).mp hlt1)
      have q2 := (quo_lt hk (by omega)).mpr ((block_sep hr h1 hk (by omega) hkb hvk hb3).mp hlt2)
      have s1 : at0 (quoL ns) a ∈ seg (quoL ns) i j := seg_at ha1 ha2 (by rw [hql]; omega)
      have s2 : at0 (quoL ns) b ∈ seg (quoL ns) i j := seg_at hb1 hb2 (by rw [hql]; omega)
      have hin2 := hqc (at0 (quoL ns) k) (by
        have := minI_le s1
        show _ ≤ (quoL ns).getD k 0
        have : at0 (quoL ns) a < (quoL ns).getD k 0 := q1
        omega) (by
        have := maxI_ge s2
        show (quoL ns).getD k 0 ≤ _
        have : (quoL ns).getD k 0 < at0 (quoL ns) b := q2
        omega)
      obtain ⟨k', h1', h2', e⟩ := seg_is hin2 (by rw [hql]; omega)
      have := nd_at0 hqr.nodup (i := k) (j := k') (by rw [hql]; exact hk) (by rw [hql]; omega) e
      exact absurd ⟨by omega, by omega⟩ hin)
  have hend : cutAt (blockL ns) j ∈ endsL ns (cutAt (blockL ns) i) := by
    have hC2 := hc.lt (i := i) (j := i + 1) (by omega) (by omega)
    refine mem_ends.mpr ⟨by omega, htop, ?_⟩
    unfold blk
    rw [decide_eq_true_eq, hconv, seg_length htop]
    omega
  have hprop : cutAt (blockL ns) j - cutAt (blockL ns) i < ns.length := by
    by_cases h0 : i = 0
    · subst h0
      have h3 := hc.lt (i := j) (j := (blockL ns).length - 1) (by omega) (by omega)
      rw [hc.last] at h3
      omega
    · have h3 := hc.lt (i := 0) (j := i) (by omega) (by omega)
      rw [hc.first] at h3
      omega
  have hmax := next_max hend hprop
  rw [← hs i (by omega)] at hmax
  omega
theorem three_blocked {q : List Int} (hq : Row q) (h3 : q.length = 3) : blocked q = true := by
  match q, h3 with
  | [a, b, c], _ =>
    have ha := hq.mem.mp (show a ∈ [a, b, c] by simp)
    have hb := hq.mem.mp (show b ∈ [a, b, c] by simp)
    have hc := hq.mem.mp (show c ∈ [a, b, c] by simp)
    have hn := hq.nodup
    simp only [List.length_cons, List.length_nil] at ha hb hc
    simp only [List.nodup_cons, List.mem_cons, List.mem_nil_iff, or_false, not_or, List.nodup_nil, not_false_eq_true, and_true] at hn
    obtain ⟨⟨n1, n2⟩, n3⟩ := hn
    have a3 : a = 1 ∨ a = 2 ∨ a = 3 := by omega
    have b3 : b = 1 ∨ b = 2 ∨ b = 3 := by omega
    have c3 : c = 1 ∨ c = 2 ∨ c = 3 := by omega
    rcases a3 with rfl | rfl | rfl <;> rcases b3 with rfl | rfl | rfl <;> rcases c3 with rfl | rfl | rfl <;> first | (exact absurd rfl n1) | (exact absurd rfl n2) | (exact absurd rfl n3) | decide +kernel
theorem block_two {ns : List Int} (hr : Row ns) (h2 : 2 ≤ ns.length) : 3 ≤ (blockL ns).length := by
  obtain ⟨hc, hs⟩ := block_cut (ns := ns) (by omega)
  have h3 := hc.two
  by_cases h : (blockL ns).length = 2
  · have hlast := hc.last
    rw [h] at hlast
    have h0 := hs 0 (by omega)
    rw [hc.first] at h0
    have e : cutAt (blockL ns) (2 - 1) = cutAt (blockL ns) (0 + 1) := rfl
    rw [e, h0] at hlast
    rcases next_is ns 0 with e | ⟨_, e⟩ <;> omega
  · omega
theorem quo_four {ns : List Int} (hr : Row ns) (h2 : 2 ≤ ns.length) (hru : (riseL ns).length ≤ 2) (hrd : (riseL (overL ns)).length ≤ 2) : 4 ≤ (quoL ns).length := by
  obtain ⟨hc, hs⟩ := block_cut (ns := ns) (by omega)
  have h3 := block_two hr h2
  have hql := quo_len ns
  by_cases e3 : (quoL ns).length = 3
  · have := three_blocked (quo_row hr (by omega)) e3
    rw [quo_free hr (by omega)] at this
    cases this
  · by_cases e2 : (quoL ns).length = 2
    · exfalso
      have hl : (blockL ns).length = 3 := by omega
      have hlast := hc.last
      rw [hl] at hlast
      have c1 := hc.lt (i := 0) (j := 1) (by omega) (by omega)
      have c2 := hc.lt (i := 1) (j := 2) (by omega) (by omega)
      have c0 := hc.first
      have hl2 : cutAt (blockL ns) 2 = ns.length := hlast
      have s0 : sgk ns (blockL ns) 0 = ns.take (cutAt (blockL ns) 1) := by
        show seg ns (cutAt (blockL ns) 0) (cutAt (blockL ns) 1) = _
        rw [c0]; unfold seg; rw [List.drop_zero, Nat.sub_zero]
      have s1 : sgk ns (blockL ns) 1 = ns.drop (cutAt (blockL ns) 1) := by
        show seg ns (cutAt (blockL ns) 1) (cutAt (blockL ns) 2) = _
        unfold seg
        rw [hl2]
        exact List.take_of_length_le (by rw [List.length_drop]; omega)
      have low : ∀ (ms : List Int), Row ms → ms.length = ns.length → (∀ x ∈ ms.take (cutAt (blockL ns) 1), ∀ y ∈ ms.drop (cutAt (blockL ns) 1), x < y) → cutAt (blockL ns) 1 ∈ riseL ms := by
        intro ms hm hml hlow
        have hall : ∀ x ∈ ms.take (cutAt (blockL ns) 1), x ≤ (cutAt (blockL ns) 1 : Nat) := by
          intro x hx
          have hxm := List.mem_of_mem_take hx
          have e1 : rk ms x = rk (ms.take (cutAt (blockL ns) 1)) x + rk (ms.drop (cutAt (blockL ns) 1)) x := by
            conv => lhs; rw [← List.take_append_drop (cutAt (blockL ns) 1) ms]
            exact rk_app _ _ _
          have e2 : rk (ms.drop (cutAt (blockL ns) 1)) x = 0 := rk_zero fun y hy => by have := hlow x hx y hy; omega
          have e3 : rk (ms.take (cutAt (blockL ns) 1)) x < cutAt (blockL ns) 1 := by
            have h8 : (ms.take (cutAt (blockL ns) 1)).length = cutAt (blockL ns) 1 := by rw [List.length_take]; omega
            unfold rk
            have h9 := List.length_filter_lt_length_iff_exists (p := fun y => decide (y < x)) (l := ms.take (cutAt (blockL ns) 1))
            have := h9.mpr ⟨x, hx, by simp⟩
            omega
          have := row_rk hm hxm
          omega
        exact mem_rise.mpr (.inr ⟨by omega, by omega, (of_low hm (by omega) (by omega) hall).1⟩)
      have hsep := fun (x y : Int) (hx : x ∈ ns.take (cutAt (blockL ns) 1)) (hy : y ∈ ns.drop (cutAt (blockL ns) 1)) => block_sep hr (by omega) (i := 0) (j := 1) (by omega) (by omega) (by omega) (by rw [s0]; exact hx) (by rw [s1]; exact hy)
      by_cases hlt : at0 ns (cutAt (blockL ns) 0) < at0 ns (cutAt (blockL ns) 1)
      · have := two_ends hr (by omega) hru _ (low ns hr rfl fun x hx y hy => (hsep x y hx hy).mpr hlt)
        omega
      · have := two_ends (over_row hr) (by rw [over_length]; omega) hrd _ (low (overL ns) (over_row hr) (over_length ns) fun x hx y hy => by
          unfold overL at hx hy
          rw [← List.map_take] at hx
          rw [← List.map_drop] at hy
          obtain ⟨x', hx', rfl⟩ := List.mem_map.mp hx
          obtain ⟨y', hy', rfl⟩ := List.mem_map.mp hy
          have h5 := hsep x' y' hx' hy'
          have h6 : x' ≠ y' := fun e => sgk_apart hr.nodup hc (i := 0) (j := 1) (by omega) (by omega) (by omega) (by rw [s0]; exact hx') (by rw [s1, e]; exact hy')
          have : ¬ x' < y' := fun z => hlt (h5.mp z)
          omega)
        rw [over_length] at this
        omega
    · omega
def trN : Nat → List Int → Tr
  | 0, _ => .one
  | n + 1, ns => if ns.length = 1 then .one else if 2 < (riseL ns).length then .run true ((partsL ns (riseL ns)).map (trN n)) else
      if 2 < (riseL (overL ns)).length then .run false ((partsL ns (riseL (overL ns))).map (trN n)) else .shp (quoL ns) ((partsL ns (blockL ns)).map (trN n))
theorem parts_ok {ns : List Int} {C : List Nat} (hr : Row ns) (hc : Cut ns.length C) (h3 : 3 ≤ C.length) : ∀ p ∈ partsL ns C, Row p ∧ 1 ≤ p.length ∧ p.length < ns.length ∧ ∃ k, k < C.length - 1 ∧ p = shapeL (sgk ns C k) := by
  intro p hp
  obtain ⟨k, hk, rfl⟩ := List.mem_map.mp hp
  have hk := List.mem_range.mp hk
  have h1 := hc.lt (i := k) (j := k + 1) (by omega) (by omega)
  have h2 := sgk_len hc hk
  have h4 := hc.top (i := k + 1) (by omega)
  refine ⟨shape_row (sgk_nodup hr.nodup), by rw [shapeL_length]; omega, ?_, k, hk, rfl⟩
  rw [shapeL_length, h2]
  by_cases h0 : k = 0
  · subst h0
    have h5 := hc.lt (i := 1) (j := C.length - 1) (by omega) (by omega)
    rw [hc.last] at h5
    have : cutAt C (0 + 1) = cutAt C 1 := rfl
    omega
  · have h5 := hc.lt (i := 0) (j := k) (by omega) (by omega)
    rw [hc.first] at h5
    omega
theorem trN_ok (n : Nat) : ∀ ns : List Int, Row ns → 1 ≤ ns.length → ns.length ≤ n → ns.length ≤ 40 → WfT (trN n ns) ∧ orderT (trN n ns) = ns := by
  induction n with
  | zero => intro ns _ h1 h2 _; omega
  | succ n ih =>
    intro ns hr h1 hn h40
    unfold trN
    by_cases e1 : ns.length = 1
    · rw [if_pos e1]
      refine ⟨by simp only [WfT], ?_⟩
      simp only [orderT]
      match ns, e1 with
      | [a], _ =>
        have := hr.mem.mp (show a ∈ [a] by simp)
        simp only [List.length_cons, List.length_nil] at this
        rw [show a = 1 by omega]
    · rw [if_neg e1]
      have hord : ∀ C, Cut ns.length C → 3 ≤ C.length → orderTs ((partsL ns C).map (trN n)) = partsL ns C ∧ WfTs ((partsL ns C).map (trN n)) ∧ ((partsL ns C).map (trN n)).length = C.length - 1 := fun C hc h3 => by
        have hp := parts_ok hr hc h3
        refine ⟨?_, wfTs_of fun t ht => ?_, by rw [List.length_map]; unfold partsL; rw [List.length_map, List.length_range]⟩
        · rw [orderTs_map, List.map_map]
          conv => rhs; rw [← List.map_id (partsL ns C)]
          apply List.map_congr_left
          intro p hpm
          obtain ⟨a, b, c, _⟩ := hp p hpm
          exact (ih p a b (by omega) (by omega)).2
        · obtain ⟨p, hpm, rfl⟩ := List.mem_map.mp ht
          obtain ⟨a, b, c, _⟩ := hp p hpm
          exact (ih p a b (by omega) (by omega)).1
      by_cases e2 : 2 < (riseL ns).length
      · rw [if_pos e2]
        have hc := rise_cut hr h1
        obtain ⟨o1, o2, o3⟩ := hord _ hc (by omega)
        constructor
        · simp only [WfT]
          refine ⟨by omega, fun t ht => ?_, o2⟩
          obtain ⟨p, hpm, rfl⟩ := List.mem_map.mp ht
          obtain ⟨_, _, _, k, hk, rfl⟩ := parts_ok hr hc (by omega) p hpm
          have := rise_part hr h1 hk
          cases n with
          | zero => exact fun z => by cases z
          | succ n =>
            unfold trN
            split
            · exact fun z => by cases z
            · rw [if_neg (by omega)]
              split <;> exact fun z => by cases z
        · rw [order_glue rfl]
          simp only [shT, kidsT]
          rw [if_pos trivial, o3, o1]
          exact rise_glue hr h1
      · rw [if_neg e2]
        by_cases e3 : 2 < (riseL (overL ns)).length
        · rw [if_pos e3]
          have hc := rise_cut (over_row hr) (by rw [over_length]; exact h1)
          rw [over_length] at hc
          obtain ⟨o1, o2, o3⟩ := hord _ hc (by omega)
          constructor
          · simp only [WfT]
            refine ⟨by omega, fun t ht => ?_, o2⟩
            obtain ⟨p, hpm, rfl⟩ := List.mem_map.mp ht
            obtain ⟨_, _, _, k, hk, rfl⟩ := parts_ok hr hc (by omega) p hpm
            have := fall_part hr h1 hk
            cases n with
            | zero => exact fun z => by cases z
            | succ n =>
              unfold trN
              split
              · exact fun z => by cases z
              · split
                · exact fun z => by cases z
                · rw [if_neg (by omega)]
                  exact fun z => by cases z
          · rw [order_glue rfl]
            simp only [shT, kidsT]
            rw [if_neg (by decide), o3, o1]
            exact fall_glue hr h1
        · rw [if_neg e3]
          have hb3 := block_two hr (by omega)
          obtain ⟨hc, _⟩ := block_cut (ns := ns) h1
          obtain ⟨o1, o2, o3⟩ := hord _ hc hb3
          have hq4 := quo_four hr (by omega) (by omega) (by omega)
          have hql := quo_len ns
          constructor
          · simp only [WfT]
            refine ⟨⟨quo_row hr h1, hq4, quo_free hr h1⟩, ?_, by omega, o2⟩
            have h7 := sizeTs_ge _ o2
            have h8 := (orderTs_ok _ o2).2
            rw [o1] at h8
            have h9 := glue_length (quoL ns) (partsL ns (blockL ns))
            rw [block_glue hr h1] at h9
            omega
          · rw [order_glue rfl]
            simp only [shT, kidsT]
            rw [o1]
            exact block_glue hr h1
end VL
namespace VL
open PySem PySem.Spec PyProof.Rows L2
local macro_rules | `(tactic| walk_at "vs") => `(tactic| simp only [q_var0, q_varS, q_sat0, q_satS, q_C, q_op, q_un, q_test, q_kB, q_not, q_and, q_or, q_ifE, q_andV, q_orV, q_notV, q_chain, q_nil, q_cons, q_tup, q_lst, q_lstO, q_CB, q_BM, q_call, q_seq, q_next, q_set, q_drop, q_ret, q_if, q_setIx, q_stD, q_nx, q_rt, q_endr, q_endn, q_I, q_I0, q_addI, q_addT, q_addL, q_neg, q_ixT atI_0, q_ixT atI_1, q_ixT atI_2, q_lenT, q_lenL, q_lenS, q_int1, q_intB, q_I1, q_II, q_tupT, q_tupL, q_rgL, q_lc, q_lcO, q_r1, q_r2, q_kR1, q_kR2, q_sq, q_kSqT, q_kSqL, q_kSqQ, q_isi, q_rev, q_revT, q_revL, q_wip0, q_wipS, q_unst0, q_unstS, q_yes, q_eqI, q_bls, q_sum, q_rcT, q_rcL, if_true, q_for, q_enum, q_kEnT, q_kEnL, q_repO, q_rep, q_let, q_bind, q_slv, q_noPart, q_part, q_kP, q_slT, q_slL, q_listT, q_listL, q_eqB, q_rgL3, q_lcW, q_forW, q_ow, q_owE,
  List.map_cons, List.map_nil, List.cons_append, List.nil_append, List.length_cons, List.length_nil, List.replicate])
section
variable {X : Cx}
end
theorem cut_butL {xs : List D} : cutD xs none (some (-1)) = xs.dropLast := by
  unfold cutD
  rw [HT.sIx_none, List.drop_zero, Nat.sub_zero]
  have e : HT.sIx xs.length xs.length (some (-1)) = xs.length - 1 := by
    show (if (-1 : Int) < 0 then ((-1 : Int) + (xs.length : Int)).toNat else min (-1 : Int).toNat xs.length) = _
    rw [if_pos (by omega)]
    omega
  rw [e, List.dropLast_eq_take]
def F_p_rise_cuts : FS := fun ds S Q => ∃ d, ∃ ns : List Int, ds = [d] ∧ (d = tupI ns ∨ d = .lst (ns.map D.int)) ∧ (∀ x ∈ ns, 1 ≤ x) ∧ ns.length ≤ 1000 ∧ Q (.lst (natsD (riseL ns))) S
def T_p_rise_cuts : TSv := (tvSeq (tvSet 1 (tvLstO (tvCons (tvC (.int 0)) tvNil)))
  (tvSeq (tvSet 2 (tvC (.int 0)))
  (tvSeq (tvFor (tvEnum (tvCons (tvVar 0) tvNil)) (.tup [(.name 3), (.name 4)])
  (tvSeq (tvSet 2 (tvCB (rvII fun i j => .int (if j > i then j else i)) (tvCons (tvVar 2) (tvCons (tvVar 4) tvNil))))
  (tvIf (tvTest (tvOp rvEq (tvVar 2) (tvOp rvAdd (tvVar 3) (tvC (.int 1)))))
  (tvDrop (tvBMr rcL rvApp (tvVar 1) (tvCons (tvOp rvAdd (tvVar 3) (tvC (.int 1))) tvNil)))
  tvNext)))
  (tvRet (tvVar 1)))))

def highI (ns : List Int) (i : Nat) : Int := if i = 0 then 0 else maxI (ns.take i)
theorem high_step {ns : List Int} {i : Nat} {x : Int} (h : ns[i]? = some x) (h1 : 1 ≤ x) : (if x > highI ns i then x else highI ns i) = highI ns (i + 1) := by
  have hi : i < ns.length := (List.getElem?_eq_some_iff.mp h).1
  have e : ns.take (i + 1) = ns.take i ++ [x] := by rw [List.take_add_one, h]; rfl
  unfold highI
  rw [if_neg (by omega : ¬ i + 1 = 0), e]
  by_cases h0 : i = 0
  · subst h0
    rw [if_pos rfl, if_pos (by omega)]
    rfl
  · rw [if_neg h0, maxI_snoc (by intro z; have h8 := congrArg List.length z; rw [List.length_take, List.length_nil] at h8; omega)]
theorem rise_walk {ns : List Int} {i : Nat} (hi : i < ns.length) : (0 :: ((List.range (i + 1)).filter fun i => upTo ns (i + 1)).map (· + 1)) = (0 :: ((List.range i).filter fun i => upTo ns (i + 1)).map (· + 1)) ++ (if upTo ns (i + 1) = true then [i + 1] else []) := by
  rw [List.range_succ, List.filter_append, List.map_append, List.cons_append]
  congr 2
  cases h : upTo ns (i + 1) with
  | true => simp [h]
  | false => simp [h]
theorem t_p_rise_cuts : ∀ ds S Qv, F_p_rise_cuts ds S Qv → T_p_rise_cuts (endsV Qv) (stD 5 ds) S := by
  rintro ds S Qv ⟨d, ns, rfl, hd, hpos, hl, q⟩
  unfold T_p_rise_cuts
  walk_at "vs"
  refine ⟨sz, fun p hp => ?_⟩
  have hen : ∀ (Qa : List D → Own → Prop) S, Qa (enumD 0 (ns.map D.int)) S → kEn Qa [d] S := fun Qa S q => by
    rcases hd with rfl | rfl
    · rw [tupI, q_kEnT]; exact q
    · rw [q_kEnL]; exact q
  refine hen _ _ ?_
  have hfl : ∀ i, i ≤ ns.length → (0 :: ((List.range i).filter fun i => upTo ns (i + 1)).map (· + 1)).length ≤ 1 + i := fun i hi => by
    rw [List.length_cons, List.length_map]
    have := List.length_filter_le (fun i => upTo ns (i + 1)) (List.range i)
    rw [List.length_range] at this
    omega
  refine for_inv (fun i ρ S' => ∃ x3 x4, ρ = [some d, some (.ref p), some (.int (highI ns i)), x3, x4] ∧ S' = ust S p (.lst (natsD (0 :: ((List.range i).filter fun i => upTo ns (i + 1)).map (· + 1))))) (fun i e ρ S' he hi => ?_) ⟨_, _, rfl, rfl⟩ fun ρ S' hi => ?_
  · obtain ⟨x3, x4, rfl, rfl⟩ := hi
    rw [enumD_get, List.getElem?_map] at he
    cases hx : ns[i]? with
    | none => rw [hx] at he; cases he
    | some x =>
      rw [hx] at he
      cases he
      have hil : i < ns.length := (List.getElem?_eq_some_iff.mp hx).1
      refine ⟨_, rfl, fun k hk => ?_⟩
      simp only [sat, Nat.zero_add]
      walk_at "vs"
      simp only [high_step hx (hpos x (List.mem_of_getElem? hx)), rvEq, q_eqI, q_kB]
      have e1 : decide (highI ns (i + 1) = (i : Int) + 1) = upTo ns (i + 1) := by
        unfold highI upTo
        rw [if_neg (by omega)]
        exact decide_eq_decide.mpr (by omega)
      rw [e1]
      have e2 := rise_walk hil
      cases hu : upTo ns (i + 1) with
      | true =>
        rw [hu, if_pos rfl] at e2
        rw [if_pos rfl]
        simp only [q_rcO ust_same, q_appO ust_same]
        have := hfl i (by omega)
        refine ⟨trivial, sz2 (by unfold natsD; rw [List.length_map]; omega), hk _ _ ⟨_, _, rfl, ?_⟩⟩
        rw [ust_ust, e2]
        congr 2
        unfold natsD
        rw [List.map_append]
        rfl
      | false =>
        rw [hu, if_neg (by decide), List.append_nil] at e2
        rw [if_neg (by decide)]
        exact hk _ _ ⟨_, _, rfl, by rw [e2]⟩
  · obtain ⟨x3, x4, rfl, rfl⟩ := hi
    rw [enumD_length, List.length_map]
    walk_at "vs"
    exact fin_own hp q
def F_p_block_cuts : FS := fun ds S Q => ∃ ns : List Int, ds = [tupI ns] ∧ 1 ≤ ns.length ∧ ns.length ≤ 1000 ∧ Q (.lst (natsD (blockL ns))) S
def T_p_block_cuts : TSv := (tvSeq (tvSet 1 (tvLstO (tvCons (tvC (.int 0)) tvNil)))
  (tvSeq (tvWhile (tvTest (tvOp rvLt (tvOp rvIx (tvVar 1) (tvUn rvNeg (tvC (.int 1)))) (tvCB rvLen (tvCons (tvVar 0) tvNil))))
  (tvSeq (tvSet 2 (tvLc (tvSq (tvCall F_p_whole_ends (tvCons (tvVar 0) (tvCons (tvOp rvIx (tvVar 1) (tvUn rvNeg (tvC (.int 1)))) tvNil)))) (.name 3) (tvTest (tvOp rvLt (tvOp rvSub (tvVar 3) (tvOp rvIx (tvVar 1) (tvUn rvNeg (tvC (.int 1))))) (tvCB rvLen (tvCons (tvVar 0) tvNil)))) (tvVar 3) [3]))
  (tvDrop (tvBMr rcL rvApp (tvVar 1) (tvCons (tvCB (rvMx maxI) (tvCons (tvOp rvAdd (tvLst (tvCons (tvOp rvAdd (tvOp rvIx (tvVar 1) (tvUn rvNeg (tvC (.int 1)))) (tvC (.int 1))) tvNil)) (tvVar 2)) tvNil)) tvNil)))))
  (tvRet (tvVar 1))))

theorem nats_last {l : List Nat} {b : Nat} : atI (natsD (l ++ [b])) (-1) = some (.int (b : Nat)) := by
  unfold natsD
  rw [List.map_append]
  exact atI_last _ _
theorem nats_app (l m : List Nat) : natsD l ++ natsD m = natsD (l ++ m) := by unfold natsD; rw [List.map_append]
theorem nats_len (l : List Nat) : (natsD l).length = l.length := by unfold natsD; rw [List.length_map]
theorem block_while {ns : List Int} {p : Addr} {Dv : EndsV} (hl : ns.length ≤ 1000) : ∀ (n b : Nat) (pre : List Nat) (x2 : Option D) (S : Own), b ≤ ns.length → ns.length ≤ b + n → pre.length + n ≤ 2000 → S p = some (.lst (natsD (pre ++ [b]))) →
    (∀ x2, Dv.nx [some (tupI ns), some (.ref p), x2, none] (ust S p (.lst (natsD (pre ++ blockN ns n b))))) →
    whileV (tvTest (tvOp rvLt (tvOp rvIx (tvVar 1) (tvUn rvNeg (tvC (.int 1)))) (tvCB rvLen (tvCons (tvVar 0) tvNil))))
      (tvSeq (tvSet 2 (tvLc (tvSq (tvCall F_p_whole_ends (tvCons (tvVar 0) (tvCons (tvOp rvIx (tvVar 1) (tvUn rvNeg (tvC (.int 1)))) tvNil)))) (.name 3) (tvTest (tvOp rvLt (tvOp rvSub (tvVar 3) (tvOp rvIx (tvVar 1) (tvUn rvNeg (tvC (.int 1))))) (tvCB rvLen (tvCons (tvVar 0) tvNil)))) (tvVar 3) [3]))
        (tvDrop (tvBMr rcL rvApp (tvVar 1) (tvCons (tvCB (rvMx maxI) (tvCons (tvOp rvAdd (tvLst (tvCons (tvOp rvAdd (tvOp rvIx (tvVar 1) (tvUn rvNeg (tvC (.int 1)))) (tvC (.int 1))) tvNil)) (tvVar 2)) tvNil)) tvNil)))) Dv (n + 1) [some (tupI ns), some (.ref p), x2, none] S := by
  intro n
  induction n with
  | zero =>
    intro b pre x2 S h1 h2 h3 hS q
    rw [q_whileS]
    walk_at "vs"
    simp only [q_ixO hS nats_last, q_lenI, rvLt, q_I0, q_kB]
    rw [if_neg (by rw [decide_eq_true_eq]; omega)]
    have := q x2
    simp only [blockN] at this
    rw [ust_id hS] at this
    exact this
  | succ n ih =>
    intro b pre x2 S h1 h2 h3 hS q
    rw [q_whileS]
    walk_at "vs"
    simp only [q_ixO hS nats_last, q_lenI, rvLt, q_I0, q_kB]
    by_cases hb : b < ns.length
    · rw [if_pos (decide_eq_true (by omega))]
      refine ⟨ns, b, rfl, hb, hl, ?_⟩
      simp only [q_kSqL]
      have hel : (endsL ns b).length ≤ ns.length := ends_len
      refine ⟨sz (by rw [List.length_map]; omega), ?_⟩
      refine comp_filter (fun d => match d with | .int e => decide (e - b < ns.length) | _ => false) id _ _ (fun d hd => ?_) ?_
      · obtain ⟨e, _, rfl⟩ := List.mem_map.mp hd
        refine ⟨_, bind_name, fun Q' q' => ?_, fun _ Q' q' => ?_⟩
        · walk_at "vs"
          simp only [q_ixO hS nats_last, q_lenI, rvLt, rvSub, q_I0, q_kB]
          exact q'
        · walk_at "vs"
          exact q'
      · have e1 : ((((endsL ns b).map fun e : Nat => D.int (e : Nat)).filter (fun d => match d with | .int e => decide (e - b < ns.length) | _ => false)).map id) = natsD ((endsL ns b).filter fun e => decide (e - b < ns.length)) := by
          rw [List.map_id, List.filter_map]
          unfold natsD
          congr 1
          apply List.filter_congr
          intro e he
          have := (mem_ends.mp he).1
          show decide ((e : Int) - b < ns.length) = decide (e - b < ns.length)
          exact decide_eq_decide.mpr (by omega)
        rw [e1]
        simp only [q_rcO hS, true_and, q_ixO hS nats_last, q_addI]
        have hfl := List.length_filter_le (fun e => decide (e - b < ns.length)) (endsL ns b)
        refine ⟨sz, ?_⟩
        refine ⟨sz (by rw [nats_len]; omega), ?_⟩
        refine ⟨((b + 1 : Nat) : Int) :: ((endsL ns b).filter fun e => decide (e - b < ns.length)).map fun e : Nat => (e : Int), ?_, by simp, ?_⟩
        · show some (D.int ((b : Int) + 1) :: natsD _) = _
          unfold natsD
          simp only [List.map_cons, List.map_map]
          rfl
        · rw [next_list]
          simp only [q_appO hS]
          refine ⟨sz2 (by rw [nats_len, List.length_append]; simp only [List.length_cons, List.length_nil]; omega), ?_⟩
          have hg := next_gt ns b
          have e2 : natsD (pre ++ [b]) ++ [D.int (nextB ns b : Nat)] = natsD ((pre ++ [b]) ++ [nextB ns b]) := (nats_app (pre ++ [b]) [nextB ns b])
          rw [e2]
          refine ih (nextB ns b) (pre ++ [b]) _ _ (next_le hb) (by omega) (by rw [List.length_append]; simp only [List.length_cons, List.length_nil]; omega) ust_same fun x2 => ?_
          rw [ust_ust]
          have := q x2
          unfold blockN at this
          rw [if_pos hb] at this
          rw [List.append_assoc]
          exact this
    · rw [if_neg (by rw [decide_eq_true_eq]; omega)]
      have := q x2
      unfold blockN at this
      rw [if_neg hb, ust_id hS] at this
      exact this
theorem t_p_block_cuts : ∀ ds S Qv, F_p_block_cuts ds S Qv → T_p_block_cuts (endsV Qv) (stD 4 ds) S := by
  rintro ds S Qv ⟨ns, rfl, h1, hl, q⟩
  unfold T_p_block_cuts
  simp only [q_seq, q_set, q_lstO, q_cons, q_nil, q_C]
  refine ⟨sz (by simp), fun p hp => ?_⟩
  rw [q_while]
  refine ⟨ns.length + 1, ?_⟩
  refine block_while (p := p) hl ns.length 0 [] none _ (Nat.zero_le _) (by omega) (by simp only [List.length_nil]; omega) ust_same fun x2 => ?_
  rw [ust_ust]
  walk_at "vs"
  exact fin_own hp q
def F_p_parted : FS := fun ds S Q => ∃ (ns : List Int) (C : List Nat), ds = [tupI ns, .lst (natsD C)] ∧ Cut ns.length C ∧ ns.length ≤ 1000 ∧ C.length ≤ 1001 ∧ Q (.lst ((partsL ns C).map tupI)) S
def T_p_parted : TSv := (tvRet (tvLc (tvZip (tvCons (tvVar 1) (tvCons (tvSl rvSl (tvVar 1) (tvPart (tvC (.int 1))) tvNoPart) tvNil))) (.tup [(.name 2), (.name 3)]) ttYes (tvCall F_p_closed_up (tvCons (tvSl rvSl (tvVar 0) (tvPart (tvVar 2)) (tvPart (tvVar 3))) tvNil)) [2, 3]))

theorem zip_cuts (C : List Nat) : zipD (natsD C) ((natsD C).drop 1) = (List.range (C.length - 1)).map fun k => D.tuq [.int (cutAt C k : Nat), .int (cutAt C (k + 1) : Nat)] := by
  apply List.ext_getElem?
  intro i
  rw [List.getElem?_map]
  have hl : (zipD (natsD C) ((natsD C).drop 1)).length = C.length - 1 := by rw [zipD_length, List.length_drop, nats_len]; omega
  by_cases hi : i < C.length - 1
  · rw [List.getElem?_range hi]
    have hil : i < (zipD (natsD C) ((natsD C).drop 1)).length := by omega
    obtain ⟨x, y, e1, e2, e3⟩ := zipD_get _ _ _ _ (List.getElem?_eq_getElem hil)
    rw [List.getElem?_eq_getElem hil, e3]
    have g : ∀ j, j < C.length → (natsD C)[j]? = some (.int (cutAt C j : Nat)) := fun j hj => by
      unfold natsD cutAt
      rw [List.getElem?_map, List.getD_eq_getElem?_getD, List.getElem?_eq_getElem hj]
      rfl
    rw [g i (by omega)] at e1
    rw [List.getElem?_drop, Nat.add_comm, g (i + 1) (by omega)] at e2
    cases e1; cases e2
    rfl
  · rw [List.getElem?_eq_none (by omega), List.getElem?_eq_none (by simpa using hi)]
    rfl
theorem t_p_parted : ∀ ds S Qv, F_p_parted ds S Qv → T_p_parted (endsV Qv) (stD 4 ds) S := by
  rintro ds S Qv ⟨ns, C, rfl, hc, hl, hcl, q⟩
  unfold T_p_parted
  walk_at "vs"
  simp only [q_zip, q_cons, q_nil, q_var0, q_varS, q_slv, q_part, q_noPart, q_C, q_kP, q_slL]
  refine ⟨_, rfl, ?_⟩
  have e0 : cutD (natsD C) (some 1) none = (natsD C).drop 1 := cut_from (by omega)
  rw [e0, zip_cuts]
  refine ⟨sz (by rw [List.length_map, List.length_range]; omega), ?_⟩
  refine comp_map (fun d => match d with | .tuq [.int a, .int b] => tupI (shapeL (seg ns a.toNat b.toNat)) | _ => .non) _ _ (fun d hd => ?_) ?_
  · obtain ⟨k, hk, rfl⟩ := List.mem_map.mp hd
    have hk := List.mem_range.mp hk
    refine ⟨_, rfl, fun Q' q' => ?_⟩
    simp only [sat]
    walk_at "vs"
    simp only [q_kP, q_slI, cut_seg]
    refine ⟨.tup ((seg ns (cutAt C k) (cutAt C (k + 1))).map D.int), seg ns (cutAt C k) (cutAt C (k + 1)), rfl, .inr rfl, ?_, q'⟩
    have := sgk_len hc hk
    unfold sgk at this
    have := hc.top (i := k + 1) (by omega)
    omega
  · have e1 : ((List.range (C.length - 1)).map fun k => D.tuq [.int (cutAt C k : Nat), .int (cutAt C (k + 1) : Nat)]).map (fun d => match d with | .tuq [.int a, .int b] => tupI (shapeL (seg ns a.toNat b.toNat)) | _ => .non) = (partsL ns C).map tupI := by
      unfold partsL
      rw [List.map_map, List.map_map]
      rfl
    rw [e1]
    exact fin_of q
def F_p_tree_of : Nat → FS
  | 0 => fun _ _ _ => False
  | n + 1 => fun ds S Q => ∃ ns : List Int, ds = [tupI ns] ∧ Row ns ∧ 1 ≤ ns.length ∧ ns.length ≤ n + 1 ∧ ns.length ≤ 40 ∧ Q (treeD (trN (n + 1) ns)) S
def T_p_tree_of (Fr : FS) : TSv := (tvSeq (tvIf (tvTest (tvOp rvEq (tvCB rvLen (tvCons (tvVar 0) tvNil)) (tvC (.int 1))))
  (tvRet (tvC (.tup [.str "one"])))
  tvNext)
  (tvSeq (tvSet 1 (tvCall F_p_rise_cuts (tvCons (tvVar 0) tvNil)))
  (tvSeq (tvIf (tvTest (tvOp rvGt (tvCB rvLen (tvCons (tvVar 1) tvNil)) (tvC (.int 2))))
  (tvRet (tvTup (tvCons (tvC (.str "rise")) (tvCons (tvCB rvTuple (tvCons (tvLc (tvSq (tvCall F_p_parted (tvCons (tvVar 0) (tvCons (tvVar 1) tvNil)))) (.name 2) ttYes (tvCall Fr (tvCons (tvVar 2) tvNil)) [2]) tvNil)) tvNil))))
  tvNext)
  (tvSeq (tvSet 1 (tvCall F_p_rise_cuts (tvCons (tvLc (tvSq (tvVar 0)) (.name 3) ttYes (tvOp rvSub (tvOp rvAdd (tvCB rvLen (tvCons (tvVar 0) tvNil)) (tvC (.int 1))) (tvVar 3)) [3]) tvNil)))
  (tvSeq (tvIf (tvTest (tvOp rvGt (tvCB rvLen (tvCons (tvVar 1) tvNil)) (tvC (.int 2))))
  (tvRet (tvTup (tvCons (tvC (.str "fall")) (tvCons (tvCB rvTuple (tvCons (tvLc (tvSq (tvCall F_p_parted (tvCons (tvVar 0) (tvCons (tvVar 1) tvNil)))) (.name 2) ttYes (tvCall Fr (tvCons (tvVar 2) tvNil)) [2]) tvNil)) tvNil))))
  tvNext)
  (tvSeq (tvSet 1 (tvCall F_p_block_cuts (tvCons (tvVar 0) tvNil)))
  (tvRet (tvTup (tvCons (tvC (.str "shape")) (tvCons (tvCall F_p_shape_at (tvCons (tvVar 0) (tvCons (tvCB rvTuple (tvCons (tvSl rvSl (tvVar 1) tvNoPart (tvPart (tvUn rvNeg (tvC (.int 1))))) tvNil)) tvNil))) (tvCons (tvCB rvTuple (tvCons (tvLc (tvSq (tvCall F_p_parted (tvCons (tvVar 0) (tvCons (tvVar 1) tvNil)))) (.name 2) ttYes (tvCall Fr (tvCons (tvVar 2) tvNil)) [2]) tvNil)) tvNil)))))))))))

theorem part_comp {Fr : FS} {i n : Nat} {ρ : VS} {S : Own} (hi : ∀ d, nth (sat ρ i d) i = some d) {c : List Int → Prop} (hF : ∀ p, c p → ∀ (S : Own) (Q : KE), Q (treeD (trN n p)) S → Fr [tupI p] S Q) :
    ∀ (l : List (List Int)) (Q : List D → Own → Prop), (∀ p ∈ l, c p) → Q (treeDs (l.map (trN n))) S → compV (.name i) ttYes (tvCall Fr (tvCons (tvVar i) tvNil)) ρ (l.map tupI) S Q
  | [], Q, _, h => by simp only [List.map_nil, treeDs] at h; exact h
  | p :: l, Q, hl, h => by
    rw [List.map_cons, comp_cons bind_name]
    simp only [q_yes, if_true, q_call, q_cons, q_nil]
    unfold tvVar
    rw [hi]
    refine hF p (hl p (by simp)) _ _ (part_comp hi hF l _ (fun p' hp' => hl p' (by simp [hp'])) ?_)
    simp only [List.map_cons, treeDs] at h
    exact h
theorem cuts_few {n : Nat} {C : List Nat} (hc : Cut n C) : C.length ≤ n + 1 := by
  have h : ∀ k, k < C.length → k ≤ cutAt C k := by
    intro k
    induction k with
    | zero => intro _; exact Nat.zero_le _
    | succ k ih =>
      intro hk
      have := ih (by omega)
      have := hc.lt (i := k) (j := k + 1) (by omega) hk
      omega
  have h2 := hc.two
  have := h (C.length - 1) (by omega)
  rw [hc.last] at this
  omega
theorem t_p_tree_of (n : Nat) : ∀ ds S Qv, F_p_tree_of (n + 1) ds S Qv → T_p_tree_of (F_p_tree_of n) (endsV Qv) (stD 4 ds) S := by
  rintro ds S Qv ⟨ns, rfl, hr, h1, hn, h40, q⟩
  have hpos : ∀ x ∈ ns, 1 ≤ x := fun x hx => (hr.mem.mp hx).1
  have hF : ∀ p, (Row p ∧ 1 ≤ p.length ∧ p.length ≤ n ∧ p.length ≤ 40) → ∀ (S : Own) (Q : KE), Q (treeD (trN n p)) S → F_p_tree_of n [tupI p] S Q := fun p ⟨a, b, c, d⟩ S Q q => by
    obtain ⟨n', rfl⟩ : ∃ n', n = n' + 1 := ⟨n - 1, by omega⟩
    exact ⟨p, rfl, a, b, c, d, q⟩
  have hparts : ∀ C, Cut ns.length C → 3 ≤ C.length → ∀ p ∈ partsL ns C, Row p ∧ 1 ≤ p.length ∧ p.length ≤ n ∧ p.length ≤ 40 := fun C hc h3 p hp => by
    obtain ⟨a, b, c, _⟩ := parts_ok hr hc h3 p hp
    exact ⟨a, b, by omega, by omega⟩
  unfold T_p_tree_of
  walk_at "vs"
  simp only [q_lenI, rvEq, q_eqI, q_kB]
  unfold trN at q
  by_cases e1 : ns.length = 1
  · rw [if_pos (decide_eq_true (by omega))]
    rw [if_pos e1] at q
    simp only [treeD] at q
    exact fin_of q
  · rw [if_neg (by rw [decide_eq_true_eq]; omega)]
    rw [if_neg e1] at q
    refine ⟨_, ns, rfl, .inl rfl, hpos, by omega, ?_⟩
    have hc1 := rise_cut hr h1
    have hf1 := cuts_few hc1
    simp only [q_sat0, q_satS, q_lenL, nats_len, rvGt, q_I0, q_kB]
    by_cases e2 : 2 < (riseL ns).length
    · rw [if_pos (decide_eq_true (by omega))]
      rw [if_pos e2] at q
      refine ⟨ns, riseL ns, rfl, hc1, by omega, by omega, ?_⟩
      have hpl : ((partsL ns (riseL ns)).map tupI).length ≤ 50 := by unfold partsL; rw [List.length_map, List.length_map, List.length_range]; omega
      simp only [q_kSqL]
      refine ⟨sz (by omega), part_comp (i := 2) (n := n) (fun _ => rfl) hF _ _ (hparts _ hc1 (by omega)) ?_⟩
      refine ⟨sz, ?_⟩
      simp only [treeD] at q
      exact fin_of q
    · rw [if_neg (by rw [decide_eq_true_eq]; omega)]
      rw [if_neg e2] at q
      simp only [tupI, q_kSqT]
      refine ⟨sz (by rw [List.length_map]; omega), comp_map (fun d => match d with | .int x => .int ((ns.length : Int) + 1 - x) | _ => .non) _ _ (fun d hd => ⟨_, bind_name, fun Q' q' => ?_⟩) ?_⟩
      · obtain ⟨x, _, rfl⟩ := List.mem_map.mp hd
        walk_at "vs"
        simp only [q_lenT, List.length_map, q_addI, rvSub, q_I0]
        exact q'
      · have e5 : (ns.map D.int).map (fun d => match d with | .int x => D.int ((ns.length : Int) + 1 - x) | _ => .non) = (overL ns).map D.int := by
          unfold overL
          rw [List.map_map, List.map_map]
          rfl
        rw [e5]
        have hor := over_row hr
        have hol := over_length ns
        have hc2 := rise_cut hor (by omega)
        rw [hol] at hc2
        have hf2 := cuts_few hc2
        refine ⟨_, overL ns, rfl, .inr rfl, fun x hx => (hor.mem.mp hx).1, by omega, ?_⟩
        simp only [q_sat0, q_satS, q_lenL, nats_len, rvGt, q_I0, q_kB]
        by_cases e3 : 2 < (riseL (overL ns)).length
        · rw [if_pos (decide_eq_true (by omega))]
          rw [if_pos e3] at q
          refine ⟨ns, riseL (overL ns), rfl, hc2, by omega, by omega, ?_⟩
          have hpl : ((partsL ns (riseL (overL ns))).map tupI).length ≤ 50 := by unfold partsL; rw [List.length_map, List.length_map, List.length_range]; omega
          simp only [q_kSqL]
          refine ⟨sz (by omega), part_comp (i := 2) (n := n) (fun _ => rfl) hF _ _ (hparts _ hc2 (by omega)) ?_⟩
          refine ⟨sz, ?_⟩
          simp only [treeD] at q
          exact fin_of q
        · rw [if_neg (by rw [decide_eq_true_eq]; omega)]
          rw [if_neg e3] at q
          obtain ⟨hc3, _⟩ := block_cut (ns := ns) h1
          have hf3 := cuts_few hc3
          have hb3 := block_two hr (by omega)
          refine ⟨ns, rfl, h1, by omega, ?_⟩
          simp only [q_sat0, q_satS, q_slL, q_kP, cut_butL, q_tupL]
          have e6 : (natsD (blockL ns)).dropLast = natsD (startsL ns) := by unfold natsD startsL; rw [List.map_dropLast]
          rw [e6]
          have hsl := starts_len ns
          refine ⟨ns, startsL ns, rfl, fun z => ?_, ?_, fun x hx => ?_, by omega, ?_⟩
          · rw [z] at hsl; simp at hsl; omega
          · unfold startsL
            exact hc3.inc.sublist (List.dropLast_sublist _)
          · obtain ⟨k, hk, e⟩ := List.mem_iff_getElem.mp hx
            have e7 : (startsL ns).getD k 0 = x := by rw [List.getD_eq_getElem?_getD, List.getElem?_eq_getElem hk, e]; rfl
            rw [starts_at (by omega)] at e7
            have := hc3.lt (i := k) (j := (blockL ns).length - 1) (by omega) (by omega)
            rw [hc3.last] at this
            omega
          · refine ⟨ns, blockL ns, rfl, hc3, by omega, by omega, ?_⟩
            have hpl : ((partsL ns (blockL ns)).map tupI).length ≤ 50 := by unfold partsL; rw [List.length_map, List.length_map, List.length_range]; omega
            simp only [q_kSqL]
            refine ⟨sz (by omega), part_comp (i := 2) (n := n) (fun _ => rfl) hF _ _ (hparts _ hc3 hb3) ?_⟩
            refine ⟨sz, ?_⟩
            simp only [treeD] at q
            exact fin_of q
end VL
namespace VL
open PySem PySem.Spec PyProof.Rows L2
theorem thd_tree (n : Nat) : ∀ t : Tr, sizeT t ≤ n → n ≤ 42 → WfT t → ThD 42 (2 * sizeT t + 1) (treeD t) := by
  induction n with
  | zero => intro t hn _ hw; have := sizeT_pos t hw; omega
  | succ n ih =>
    intro t hn hn2 hw
    have kids : ∀ ps : List Tr, WfTs ps → 2 ≤ ps.length → sizeTs ps ≤ n + 1 → ThD 42 (2 * sizeTs ps) (.tup (treeDs ps)) := fun ps hk h2 hs => by
      have hge := sizeTs_ge ps hk
      have e : 2 * sizeTs ps = (2 * sizeTs ps - 1) + 1 := by omega
      rw [e, treeDs_map]
      refine ThD.tup (by rw [List.length_map]; omega) fun x hx => ?_
      obtain ⟨p, hp, rfl⟩ := List.mem_map.mp hx
      have hsk := size_kid hk h2 p hp
      exact ThD.mono (Nat.le_refl _) (by omega) (ih p (by omega) (by omega) (wfTs_mem hk p hp))
    cases t with
    | one =>
      simp only [treeD, sizeT]
      exact ThD.tup (by decide) fun x hx => by rw [List.mem_singleton.mp hx]; exact ThD.flat trivial
    | run up ps =>
      simp only [WfT] at hw
      simp only [treeD, sizeT] at *
      refine ThD.tup (by show 2 ≤ 42; omega) fun x hx => ?_
      simp only [List.mem_cons, List.mem_nil_iff, or_false] at hx
      rcases hx with rfl | rfl
      · exact ThD.flat trivial
      · exact kids ps hw.2.2 hw.1 hn
    | shp sh ps =>
      simp only [WfT] at hw
      have h4 := hw.1.len
      have hge := sizeTs_ge ps hw.2.2.2
      simp only [treeD, sizeT] at *
      refine ThD.tup (by show 3 ≤ 42; omega) fun x hx => ?_
      simp only [List.mem_cons, List.mem_nil_iff, or_false] at hx
      rcases hx with rfl | rfl | rfl
      · exact ThD.flat trivial
      · exact ThD.mono (Nat.le_refl _) (by omega) (thd_ints (w := 42) (by omega) fun i hi => by have := hw.1.row.mem.mp hi; omega)
      · exact kids ps hw.2.2.2 (by omega) hn
theorem hd_tree (t : Tr) : hd1 (treeD t) = some (wordT t) := by cases t <;> simp only [treeD, hd1, wordT]
theorem word_head {t : Tr} {up : Bool} (h : headT t ≠ some up) : wordT t ≠ wordOf up := by
  cases t with
  | one => cases up <;> decide
  | run u ps =>
    intro e
    exact h (by simp only [headT]; rw [wordOf_inj e])
  | shp sh ps => cases up <;> (simp only [wordT]; decide)
theorem unb_tup {sh : List Int} (h : Unb sh) (h40 : sh.length ≤ 40) : unbD (tupI sh) = true := by
  have h4 := h.len
  have e : isRowD (tupI sh) = true := (row_isD h.row (by omega) h40).1
  rw [unbD_row e, h.free, decide_eq_true (by omega)]
  rfl
theorem size_tree (n : Nat) : ∀ t : Tr, sizeT t ≤ n → WfT t → sizeN n (treeD t) = sizeT t := by
  induction n with
  | zero => intro t hn hw; have := sizeT_pos t hw; omega
  | succ n ih =>
    intro t hn hw
    have kids : ∀ ps : List Tr, WfTs ps → 2 ≤ ps.length → sizeTs ps ≤ n + 1 → (treeDs ps).map (sizeN n) = ps.map sizeT ∧ 0 ∉ (treeDs ps).map (sizeN n) := fun ps hk h2 hs => by
      have e : (treeDs ps).map (sizeN n) = ps.map sizeT := by
        rw [treeDs_map, List.map_map]
        apply List.map_congr_left
        intro p hp
        have := size_kid hk h2 p hp
        exact ih p (by omega) (wfTs_mem hk p hp)
      refine ⟨e, fun h => ?_⟩
      rw [e] at h
      obtain ⟨p, hp, h0⟩ := List.mem_map.mp h
      have := sizeT_pos p (wfTs_mem hk p hp)
      omega
    cases t with
    | one =>
      have e1 : isOneD (treeD .one) = true := by simp only [treeD]; decide
      simp only [sizeN, e1, if_true, sizeT]
    | run up ps =>
      simp only [WfT] at hw
      simp only [sizeT] at hn ⊢
      obtain ⟨k1, k2⟩ := kids ps hw.2.2 hw.1 hn
      have e1 : isOneD (treeD (.run up ps)) = false := by simp only [treeD]; exact one_no
      have e2 : nodeD (treeD (.run up ps)) = true := by
        simp only [treeD, nodeD, runOk]
        have a1 : (decide (wordOf up = "rise") || decide (wordOf up = "fall")) = true := by cases up <;> decide
        have a2 : (treeDs ps).length = ps.length := by rw [treeDs_map, List.length_map]
        have a3 : ((treeDs ps).any fun p => decide (hd1 p = some (wordOf up))) = false := by
          rw [List.any_eq_false]
          intro d hd
          rw [treeDs_map] at hd
          obtain ⟨p, hp, rfl⟩ := List.mem_map.mp hd
          rw [decide_eq_true_eq, hd_tree]
          exact fun e => word_head (hw.2.1 p hp) (Option.some.inj e)
        rw [a1, a2, a3, decide_eq_true hw.1]
        rfl
      have e3 : partsD (treeD (.run up ps)) = treeDs ps := by simp only [treeD]; rfl
      simp only [sizeN, e1, e2, e3, Bool.false_eq_true, if_false, if_true, if_neg k2]
      rw [k1, sizeTs_sum]
    | shp sh ps =>
      simp only [WfT] at hw
      have h4 := hw.1.len
      simp only [sizeT] at hn ⊢
      obtain ⟨k1, k2⟩ := kids ps hw.2.2.2 (by omega) hn
      have e1 : isOneD (treeD (.shp sh ps)) = false := by simp only [treeD]; exact one_no
      have e2 : nodeD (treeD (.shp sh ps)) = true := by
        simp only [treeD, node_shp, shpOk]
        rw [unb_tup hw.1 hw.2.1]
        simp only [decide_true, Bool.true_and, lenTD, tupI, List.length_map, decide_eq_true_eq]
        rw [treeDs_map, List.length_map, hw.2.2.1]
      have e3 : partsD (treeD (.shp sh ps)) = treeDs ps := by simp only [treeD]; rfl
      simp only [sizeN, e1, e2, e3, Bool.false_eq_true, if_false, if_true, if_neg k2]
      rw [k1, sizeTs_sum]
end VL
namespace VL
open PySem PySem.Spec PyProof.Rows L2
structure KTab (K : PySem.W.Frag) (w : World) (d : Addr) (tab : List (Str × Str)) : Prop where
  ex : ∃ (es : Array DictEntry) (n : Nat), K.lookup d = some ⟨.type "dict", none, .dict es n, #[]⟩ ∧ PySem.W.KeysLit w.params es.toList
  at_ : ∀ p ∈ tab, ∃ t, PySem.W.nsIn K d p.1 = some (some (.str p.2 t))
def tvKd (tab : List (Str × Str)) (T : TEv) : TEv := fun ρ S Q => T ρ S fun k S1 => ∃ s u, k = .str s ∧ (s, u) ∈ tab ∧ Q (.str u) S1
section
variable {X : Cx}
theorem v_kd {x : Str} {e : Expr} {T : TEv} {tab : List (Str × Str)} {p pos : Pos} (hm : ∃ d, X.mg x = some (.ref d) ∧ KTab X.K X.w d tab) (hg : Gl X x) (he : PE X e (upE X.K T)) (hs : PlainIx e := by exact fun _ _ => rfl) (hdb : (x == ("__debug__" : Str)) = false := by decide) :
    PE X (.Subscript (.Name x p) e pos) (upE X.K (tvKd tab T)) := by
  obtain ⟨d, hm, ⟨es, n, D1, D2⟩, hat⟩ := hm
  refine pe_imp (pe_ix (ix_kdict) (pe_glob (v := .ref d) hg hm rfl hdb) he hs) fun σ H Q ⟨Z, ρ, S, Qv, m, r, h, b⟩ => ?_
  refine ⟨Z, ρ, S, _, m, r, h, fun k v H1 S1 e1 m1 r1 ⟨s, u, ek, hu, h1⟩ => ?_⟩
  subst ek
  simp only [Rp] at r1
  obtain ⟨t, ht⟩ := hat _ hu
  exact ⟨d, s, .str u, rfl, r1, ⟨es, n, _, D1, D2, ht, ⟨t, rfl⟩⟩, b _ _ H1 S1 e1 m1 (by simp only [Rp]) h1⟩
end
theorem q_kd {tab : List (Str × Str)} {T : TEv} {ρ : VS} {S : Own} {Q : KE} : tvKd tab T ρ S Q = T ρ S (fun k S1 => ∃ s u, k = .str s ∧ (s, u) ∈ tab ∧ Q (.str u) S1) := rfl
end VL
namespace VL
open PySem PySem.Spec PyProof.Rows L2
local macro_rules | `(tactic| walk_at "vs") => `(tactic| simp only [q_var0, q_varS, q_sat0, q_satS, q_C, q_op, q_un, q_test, q_kB, q_not, q_and, q_or, q_ifE, q_andV, q_orV, q_notV, q_chain, q_nil, q_cons, q_tup, q_lst, q_lstO, q_CB, q_BM, q_call, q_seq, q_next, q_set, q_drop, q_ret, q_if, q_setIx, q_stD, q_nx, q_rt, q_endr, q_endn, q_I, q_I0, q_addI, q_addT, q_addL, q_neg, q_ixT atI_0, q_ixT atI_1, q_ixT atI_2, q_lenT, q_lenL, q_lenS, q_int1, q_intB, q_I1, q_II, q_tupT, q_tupL, q_rgL, q_lc, q_lcO, q_r1, q_r2, q_kR1, q_kR2, q_sq, q_kSqT, q_kSqL, q_kSqQ, q_isi, q_rev, q_revT, q_revL, q_wip0, q_wipS, q_unst0, q_unstS, q_yes, q_eqI, q_bls, q_sum, q_rcT, q_rcL, if_true, q_for, q_enum, q_kEnT, q_kEnL, q_repO, q_rep, q_let, q_bind, q_slv, q_noPart, q_part, q_kP, q_slT, q_slL, q_listT, q_listL, q_eqB, q_rgL3, q_lcW, q_forW, q_ow, q_owE,
  List.map_cons, List.map_nil, List.cons_append, List.nil_append, List.length_cons, List.length_nil, List.replicate])
def itoS (i : Int) : Str := (toString i : String)
theorem join_len (sep : Str) (parts : List Str) : (Txt.join sep parts).length = (parts.map (·.length)).sum + (parts.length - 1) * sep.length := PySem.size_glued sep parts
theorem small_len : ∀ i : Int, 0 ≤ i → i ≤ 1000 → (itoS i).length ≤ 4 := by
  have h : ((List.range 1001).all fun n => decide ((itoS (n : Nat)).length ≤ 4)) = true := by decide +kernel
  intro i h0 h1
  obtain ⟨n, rfl⟩ := Int.eq_ofNat_of_zero_le h0
  exact of_decide_eq_true (List.all_eq_true.mp h n (List.mem_range.mpr (by omega)))
theorem sum_le {l : List Str} {b : Nat} (h : ∀ x ∈ l, x.length ≤ b) : (l.map (·.length)).sum ≤ l.length * b := by
  induction l with
  | nil => exact Nat.zero_le _
  | cons x l ih =>
    have h1 := h x (by simp)
    have h2 := ih fun y hy => h y (by simp [hy])
    rw [List.map_cons, List.sum_cons, List.length_cons, Nat.add_mul]
    omega
def rowText (ns : List Int) : Str := Txt.join (" " : String) (ns.map itoS)
def rowDots (ns : List Int) : Str := Txt.join ("." : String) (ns.map itoS)
theorem row_sum {ns : List Int} (h : ∀ x ∈ ns, 0 ≤ x ∧ x ≤ 1000) (hl : ns.length ≤ 1000) : ((ns.map itoS).map (·.length)).sum ≤ 4000 := by
  have := sum_le (l := ns.map itoS) (b := 4) fun x hx => by
    obtain ⟨i, hi, rfl⟩ := List.mem_map.mp hx
    exact small_len i (h i hi).1 (h i hi).2
  rw [List.length_map] at this
  omega
theorem ints_comp {i : Nat} {ρ : VS} {S : Own} {ns : List Int} {Q : List D → Own → Prop} (hi : ∀ d, nth (sat ρ i d) i = some d) (h : ∀ x ∈ ns, 0 ≤ x ∧ x ≤ 1000) (q : Q ((ns.map itoS).map D.str) S) :
    compV (.name i) ttYes (tvCB rvStr (tvCons (tvVar i) tvNil)) ρ (ns.map D.int) S Q := by
  refine comp_map (fun d => match d with | .int k => .str (itoS k) | _ => .non) _ _ (fun d hd => ?_) ?_
  · obtain ⟨k, hk, rfl⟩ := List.mem_map.mp hd
    refine ⟨_, bind_name, fun Q' q' => ?_⟩
    simp only [q_CB, q_cons, q_nil]
    unfold tvVar
    rw [hi]
    have hk2 := h k hk
    refine ⟨?_, q'⟩
    have h3 : k.natAbs ≤ 1000 := by omega
    by_cases h0 : k.natAbs = 0
    · rw [h0]; decide
    · rw [Nat.log2_lt h0]
      exact Nat.lt_of_le_of_lt h3 (Nat.lt_of_lt_of_le (show 1000 < 2 ^ 10 by decide) (Nat.pow_le_pow_right (by decide) (by decide)))
  · rw [List.map_map] at q ⊢
    exact q
theorem q_join {S : Own} {Q : KE} {a : Str} {ys : List Str} : rvJoin (.str a) [.lst (ys.map D.str)] S Q = ((ys.map (·.length)).sum + ys.length * a.length ≤ 16777216 ∧ Q (.str (Txt.join a ys)) S) := by
  simp only [rvJoin, vw, seqD, eq_iff_iff]
  constructor
  · rintro ⟨zs, h1, h2, h3⟩
    have e : zs = ys := by
      have h4 : ys.map D.str = zs.map D.str := Option.some.inj h1
      have inj : ∀ a b : List Str, a.map D.str = b.map D.str → a = b := by
        intro a
        induction a with
        | nil => intro b h; cases b with | nil => rfl | cons _ _ => simp at h
        | cons x a ih =>
          intro b h
          cases b with
          | nil => simp at h
          | cons y b =>
            simp only [List.map_cons, List.cons.injEq, D.str.injEq] at h
            rw [h.1, ih b h.2]
      exact (inj _ _ h4).symm
    subst e
    exact ⟨h2, h3⟩
  · rintro ⟨h2, h3⟩
    exact ⟨ys, rfl, h2, h3⟩
theorem rcS_str {a : Str} {S : Own} : rcS (.str a) S = True := by simp [rcS]
def F_p_show_row : FS := fun ds S Q => ∃ ns : List Int, ds = [tupI ns] ∧ (∀ x ∈ ns, 0 ≤ x ∧ x ≤ 1000) ∧ ns.length ≤ 1000 ∧ Q (.str (rowText ns)) S
def T_p_show_row : TSv := (tvRet (tvBMr rcS rvJoin (tvC (.str " ")) (tvCons (tvLc (tvSq (tvVar 0)) (.name 1) ttYes (tvCB rvStr (tvCons (tvVar 1) tvNil)) [1]) tvNil)))

theorem t_p_show_row : ∀ ds S Qv, F_p_show_row ds S Qv → T_p_show_row (endsV Qv) (stD 2 ds) S := by
  rintro ds S Qv ⟨ns, rfl, hb, hl, q⟩
  unfold T_p_show_row
  walk_at "vs"
  simp only [rcS_str, true_and, tupI, q_kSqT]
  refine ⟨sz (by rw [List.length_map]; omega), ints_comp (i := 1) (fun _ => rfl) hb ?_⟩
  simp only [q_join]
  have := row_sum hb hl
  refine ⟨?_, fin_of q⟩
  rw [List.length_map]
  have e : (Str.ofString " ").length = 1 := by decide
  rw [e]
  omega
def F_l_row_text : FS := fun ds S Q => ∃ ns : List Int, ds = [tupI ns] ∧ (∀ x ∈ ns, 0 ≤ x ∧ x ≤ 1000) ∧ ns.length ≤ 1000 ∧ Q (.str (rowText ns)) S
def T_l_row_text : TSv := (tvRet (tvBMr rcS rvJoin (tvC (.str " ")) (tvCons (tvLc (tvSq (tvVar 0)) (.name 1) ttYes (tvCB rvStr (tvCons (tvVar 1) tvNil)) [1]) tvNil)))

theorem t_l_row_text : ∀ ds S Qv, F_l_row_text ds S Qv → T_l_row_text (endsV Qv) (stD 2 ds) S := t_p_show_row
mutual
def textT : Tr → Str
  | .one => ("1" : String)
  | .run up ps => ("(" : String) ++ Txt.join (if up = true then (" + " : String) else (" - " : String)) (textTs ps) ++ (")" : String)
  | .shp sh ps => rowDots sh ++ ("[" : String) ++ Txt.join (" " : String) (textTs ps) ++ ("]" : String)
def textTs : List Tr → List Str
  | [] => []
  | t :: ts => textT t :: textTs ts
end
theorem textTs_map : ∀ ps : List Tr, textTs ps = ps.map textT
  | [] => by simp only [textTs, List.map_nil]
  | t :: ts => by simp only [textTs, List.map_cons, textTs_map ts]
theorem unb_ran {sh : List Int} (h : Unb sh) (h40 : sh.length ≤ 40) : ∀ x ∈ sh, 0 ≤ x ∧ x ≤ 1000 := fun x hx => by have := h.row.mem.mp hx; omega
theorem dots_len {sh : List Int} (h : ∀ x ∈ sh, 0 ≤ x ∧ x ≤ 1000) (h40 : sh.length ≤ 40) : (rowDots sh).length ≤ 200 := by
  unfold rowDots
  rw [join_len, List.length_map]
  have := sum_le (l := sh.map itoS) (b := 4) fun x hx => by
    obtain ⟨i, hi, rfl⟩ := List.mem_map.mp hx
    exact small_len i (h i hi).1 (h i hi).2
  rw [List.length_map] at this
  have e : (Str.ofString ".").length = 1 := by decide
  rw [e]
  omega
theorem text_len (n : Nat) : ∀ t : Tr, sizeT t ≤ n → WfT t → (textT t).length + 900 ≤ 1000 * sizeT t := by
  induction n with
  | zero => intro t hn hw; have := sizeT_pos t hw; omega
  | succ n ih =>
    intro t hn hw
    have kids : ∀ ps : List Tr, WfTs ps → 2 ≤ ps.length → sizeTs ps ≤ n + 1 → ((textTs ps).map (·.length)).sum + 900 * ps.length ≤ 1000 * sizeTs ps := fun ps hk h2 hs => by
      rw [textTs_map]
      have : ∀ l : List Tr, (∀ p ∈ l, (textT p).length + 900 ≤ 1000 * sizeT p) → ((l.map textT).map (·.length)).sum + 900 * l.length ≤ 1000 * sizeTs l := by
        intro l
        induction l with
        | nil => intro _; simp [sizeTs]
        | cons p l ih2 =>
          intro h
          have h1 := h p (by simp)
          have h2 := ih2 fun q hq => h q (by simp [hq])
          simp only [List.map_cons, List.sum_cons, List.length_cons, sizeTs] at h2 ⊢
          omega
      exact this ps fun p hp => ih p (by have := size_kid hk h2 p hp; omega) (wfTs_mem hk p hp)
    cases t with
    | one =>
      simp only [textT, sizeT]
      have e : (Str.ofString "1").length = 1 := by decide
      rw [e]
      omega
    | run up ps =>
      simp only [WfT] at hw
      simp only [sizeT] at hn ⊢
      have hk := kids ps hw.2.2 hw.1 hn
      have h2 := hw.1
      simp only [textT, Str.length_append, join_len, textTs_map, List.length_map]
      rw [textTs_map] at hk
      have e1 : (Str.ofString "(").length = 1 := by decide
      have e2 : (Str.ofString ")").length = 1 := by decide
      have e3 : ((if up = true then (" + " : String) else (" - " : String) : Str)).length = 3 := by cases up <;> decide
      rw [e1, e2, e3]
      omega
    | shp sh ps =>
      simp only [WfT] at hw
      have h4 := hw.1.len
      simp only [sizeT] at hn ⊢
      have hk := kids ps hw.2.2.2 (by omega) hn
      have hd := dots_len (unb_ran hw.1 hw.2.1) hw.2.1
      simp only [textT, Str.length_append, join_len, textTs_map, List.length_map]
      rw [textTs_map] at hk
      have e1 : (Str.ofString "[").length = 1 := by decide
      have e2 : (Str.ofString "]").length = 1 := by decide
      have e3 : (Str.ofString " ").length = 1 := by decide
      rw [e1, e2, e3]
      omega
def F_p_show_tree : Nat → FS
  | 0 => fun _ _ _ => False
  | n + 1 => fun ds S Q => ∃ t, ds = [treeD t] ∧ WfT t ∧ sizeT t ≤ n + 1 ∧ sizeT t ≤ 90 ∧ Q (.str (textT t)) S
def T_p_show_tree (Fr : FS) : TSv := (tvSeq (tvIf (tvTest (tvOp rvEq (tvVar 0) (tvC (.tup [.str "one"]))))
  (tvRet (tvC (.str "1")))
  tvNext)
  (tvSeq (tvSet 1 (tvLc (tvSq (tvOp rvIx (tvVar 0) (tvUn rvNeg (tvC (.int 1))))) (.name 2) ttYes (tvCall Fr (tvCons (tvVar 2) tvNil)) [2]))
  (tvSeq (tvIf (tvTest (tvOp rvEq (tvOp rvIx (tvVar 0) (tvC (.int 0))) (tvC (.str "shape"))))
  (tvRet (tvOp rvAdd (tvOp rvAdd (tvOp rvAdd (tvBMr rcS rvJoin (tvC (.str ".")) (tvCons (tvLc (tvSq (tvOp rvIx (tvVar 0) (tvC (.int 1)))) (.name 3) ttYes (tvCB rvStr (tvCons (tvVar 3) tvNil)) [3]) tvNil)) (tvC (.str "["))) (tvBMr rcS rvJoin (tvC (.str " ")) (tvCons (tvVar 1) tvNil))) (tvC (.str "]"))))
  tvNext)
  (tvRet (tvOp rvAdd (tvOp rvAdd (tvC (.str "(")) (tvBMr rcS rvJoin (tvKd [("rise", " + "), ("fall", " - ")] (tvOp rvIx (tvVar 0) (tvC (.int 0)))) (tvCons (tvVar 1) tvNil))) (tvC (.str ")")))))))

theorem text_comp {Fr : FS} {i : Nat} {ρ : VS} {S : Own} {c : Tr → Prop} (hi : ∀ d, nth (sat ρ i d) i = some d) (hF : ∀ t, c t → ∀ (S : Own) (Q : KE), Q (.str (textT t)) S → Fr [treeD t] S Q) (l : List Tr) (Q : List D → Own → Prop) (hl : ∀ p ∈ l, c p) (q : Q ((textTs l).map D.str) S) :
    compV (.name i) ttYes (tvCall Fr (tvCons (tvVar i) tvNil)) ρ (l.map treeD) S Q := by
  refine kids_comp (f := fun t => .str (textT t)) hi hF l Q hl ?_
  rw [textTs_map, List.map_map] at q
  exact q
/-- the text of a node, put together -/
theorem node_text {t : Tr} (hw : WfT t) (h1 : isOne t = false) (h90 : sizeT t ≤ 90) : ((textTs (kidsT t)).map (·.length)).sum + (textTs (kidsT t)).length * 3 ≤ 200000 ∧ (textT t).length ≤ 200000 := by
  obtain ⟨hl, h2, hsz, hk⟩ := shT_len hw h1
  have hge := sizeTs_ge _ hk
  have ht := text_len _ t (Nat.le_refl _) hw
  refine ⟨?_, by omega⟩
  have := sum_le (l := textTs (kidsT t)) (b := 100000) fun x hx => by
    rw [textTs_map] at hx
    obtain ⟨p, hp, rfl⟩ := List.mem_map.mp hx
    have h3 := size_kid hk h2 p hp
    have h4 := text_len _ p (Nat.le_refl _) (wfTs_mem hk p hp)
    omega
  have hlen : (textTs (kidsT t)).length = (kidsT t).length := by rw [textTs_map, List.length_map]
  have hs2 : ∀ l : List Tr, (∀ p ∈ l, (textT p).length ≤ 1000 * sizeT p) → ((l.map textT).map (·.length)).sum ≤ 1000 * sizeTs l := by
    intro l
    induction l with
    | nil => intro _; simp
    | cons p l ih2 =>
      intro h
      have h1 := h p (by simp)
      have h2 := ih2 fun q hq => h q (by simp [hq])
      simp only [List.map_cons, List.sum_cons, sizeTs] at h2 ⊢
      omega
  have h5 := hs2 (kidsT t) fun p hp => by
    have h4 := text_len _ p (Nat.le_refl _) (wfTs_mem hk p hp)
    omega
  rw [hlen, textTs_map]
  omega
theorem t_p_show_tree (n : Nat) : ∀ ds S Qv, F_p_show_tree (n + 1) ds S Qv → T_p_show_tree (F_p_show_tree n) (endsV Qv) (stD 4 ds) S := by
  rintro ds S Qv ⟨t, rfl, hw, hn, h90, q⟩
  unfold T_p_show_tree
  walk_at "vs"
  simp only [rvEq, q_eqOne hw h90, q_kB]
  cases h1 : isOne t with
  | true =>
    cases t with
    | one => simp only [textT] at q; exact fin_of q
    | run up ps => cases h1
    | shp sh ps => cases h1
  | false =>
    obtain ⟨hl, h2, hsz, hk⟩ := shT_len hw h1
    have hge := sizeTs_ge _ hk
    obtain ⟨nt1, nt2⟩ := node_text hw h1 h90
    have hlen : (textTs (kidsT t)).length = (kidsT t).length := by rw [textTs_map, List.length_map]
    simp only [Bool.false_eq_true, if_false, ix_kids h1, q_kSqT]
    refine ⟨sz (by rw [List.length_map]; omega), text_comp (c := fun p => WfT p ∧ sizeT p ≤ n ∧ sizeT p ≤ 90) (i := 2) (fun _ => rfl) (fun p hp S Q q' => ?_) _ _ (fun p hp => ?_) ?_⟩
    · obtain ⟨a1, a2, a3⟩ := hp
      have hp1 := sizeT_pos p a1
      obtain ⟨n', rfl⟩ : ∃ n', n = n' + 1 := ⟨n - 1, by omega⟩
      exact ⟨p, rfl, a1, a2, a3, q'⟩
    · have := size_kid hk h2 p hp
      exact ⟨wfTs_mem hk p hp, by omega, by omega⟩
    · simp only [ix_word, q_eqW, q_kB]
      cases t with
      | one => cases h1
      | run up ps =>
        have e : (wordT (.run up ps) == ("shape" : Str)) = false := by cases up <;> (simp only [wordT]; decide)
        rw [e]
        simp only [Bool.false_eq_true, if_false, q_kd, ix_word]
        simp only [kidsT] at *
        simp only [textT] at q nt2
        simp only [Str.length_append] at nt2
        have e1 : (Str.ofString "(").length = 1 := by decide
        have e2 : (Str.ofString ")").length = 1 := by decide
        rw [e1, e2] at nt2
        have e3 : ((if up = true then (" + " : String) else (" - " : String) : Str)).length = 3 := by cases up <;> decide
        refine ⟨wordOf up, (if up = true then (" + " : String) else (" - " : String)), rfl, by cases up <;> simp [wordOf], ?_⟩
        simp only [rcS_str, true_and, q_join]
        refine ⟨by rw [e3]; omega, ?_⟩
        simp only [rvAdd]
        refine ⟨sz (by rw [e1]; omega), sz (by rw [Str.length_append, e1, e2]; omega), fin_of q⟩
      | shp sh ps =>
        have e : (wordT (.shp sh ps) == ("shape" : Str)) = true := by show (("shape" : Str) == ("shape" : Str)) = true; decide
        rw [e]
        simp only [if_true]
        have i1 : ∀ S (Q : KE), rvIx (treeD (.shp sh ps)) (.int 1) S Q = Q (tupI sh) S := fun S Q => by simp only [treeD]; exact q_ixT atI_1
        simp only [WfT] at hw
        have hran := unb_ran hw.1 hw.2.1
        have hd := dots_len hran hw.2.1
        simp only [kidsT] at *
        simp only [textT] at q nt2
        simp only [Str.length_append] at nt2
        have e1 : (Str.ofString "[").length = 1 := by decide
        have e2 : (Str.ofString "]").length = 1 := by decide
        have e3 : (Str.ofString " ").length = 1 := by decide
        have e4 : (Str.ofString ".").length = 1 := by decide
        rw [e1, e2] at nt2
        simp only [rcS_str, true_and, i1, tupI, q_kSqT]
        refine ⟨sz (by rw [List.length_map]; omega), ints_comp (i := 3) (fun _ => rfl) hran ?_⟩
        have hrs := row_sum hran (by omega)
        simp only [q_join]
        refine ⟨by rw [List.length_map, e4]; omega, ?_⟩
        simp only [rvAdd]
        refine ⟨sz (by show (rowDots sh).length + _ ≤ _; rw [e1]; omega), by rw [e3]; omega, ?_⟩
        refine ⟨sz (by rw [Str.length_append, e1]; show (rowDots sh).length + _ + _ ≤ _; omega), sz (by rw [Str.length_append, Str.length_append, e1, e2]; show (rowDots sh).length + _ + _ + _ ≤ _; omega), fin_of q⟩
end VL
namespace VL
open PySem PySem.Spec PyProof.Rows L2
/-- the table of the def x is owned -/
def Tb (S : Own) (x : Str) : Prop := ∃ P, S P = some (.tb P x)
def notTb : Ob → Bool
  | .tb _ _ => false
  | _ => true
theorem Tb.new {S : Own} {x : Str} {p : Addr} {o : Ob} (t : Tb S x) (h : S p = none) : Tb (ust S p o) x := by
  obtain ⟨P, e⟩ := t
  exact ⟨P, by rw [ust_ne (own_ne e h)]; exact e⟩
theorem Tb.set {S : Own} {x : Str} {p : Addr} {o u : Ob} (t : Tb S x) (h : S p = some u) (hn : notTb u = true) : Tb (ust S p o) x := by
  obtain ⟨P, e⟩ := t
  refine ⟨P, ?_⟩
  have hne : P ≠ p := fun z => by
    subst z; rw [e] at h; cases h; cases hn
  rw [ust_ne hne]; exact e
theorem Tb.del {S : Own} {x : Str} {p : Addr} {u : Ob} (t : Tb S x) (h : S p = some u) (hn : notTb u = true) : Tb (del S p) x := by
  obtain ⟨P, e⟩ := t
  refine ⟨P, ?_⟩
  have hne : P ≠ p := fun z => by
    subst z; rw [e] at h; cases h; cases hn
  rw [del_ne hne]; exact e
section
variable {X : Cx} {pins : List (Addr × Obj)} {σ : L2.St} {H : Hp} {s : Shared} {S : Own} {Z : Addr → Prop}
end
end VL
namespace VL
open PySem PySem.Spec PyProof.Rows L2
theorem leP_anti {a b : List Int} (h1 : leP a b = true) (h2 : leP b a = true) : a = b := by
  unfold leP at *
  rw [decide_eq_true_eq] at *
  rcases h1 with h1 | ⟨_, h1⟩
  · rcases h2 with h2 | ⟨h2, _⟩ <;> omega
  · rcases h2 with h2 | ⟨_, h2⟩
    · omega
    · exact List.le_antisymm h1 h2
mutual
/-- the rows at the nodes of a tree -/
def shapesT : Tr → List (List Int)
  | .one => []
  | .run _ ps => shapesTs ps
  | .shp sh ps => sh :: shapesTs ps
def shapesTs : List Tr → List (List Int)
  | [] => []
  | t :: ts => shapesT t ++ shapesTs ts
end
mutual
/-- nodes of a tree, ones too -/
def nodesT : Tr → Nat
  | .one => 1
  | .run _ ps => nodesTs ps + 1
  | .shp _ ps => nodesTs ps + 1
def nodesTs : List Tr → Nat
  | [] => 0
  | t :: ts => nodesT t + nodesTs ts
end
theorem nodesT_kids (t : Tr) : nodesT t = nodesTs (kidsT t) + 1 := by
  cases t <;> simp only [nodesT, kidsT, nodesTs]
theorem nodesTs_app : ∀ a b : List Tr, nodesTs (a ++ b) = nodesTs a + nodesTs b
  | [], b => by simp only [List.nil_append, nodesTs]; omega
  | t :: a, b => by simp only [List.cons_append, nodesTs, nodesTs_app a b]; omega
theorem nodes_len : ∀ a : List Tr, a.length ≤ nodesTs a
  | [] => Nat.le_refl _
  | t :: a => by
    simp only [List.length_cons, nodesTs]
    have := nodes_len a
    have : 1 ≤ nodesT t := by rw [nodesT_kids]; omega
    omega
mutual
theorem nodes_size : ∀ t : Tr, WfT t → nodesT t + 1 ≤ 2 * sizeT t
  | .one, _ => by simp only [nodesT, sizeT]; omega
  | .run up ps, h => by
    simp only [WfT] at h
    simp only [nodesT, sizeT]
    have := nodesTs_size ps h.2.2
    omega
  | .shp sh ps, h => by
    simp only [WfT] at h
    simp only [nodesT, sizeT]
    have := nodesTs_size ps h.2.2.2
    have := h.1.len
    omega
theorem nodesTs_size : ∀ ps : List Tr, WfTs ps → nodesTs ps + ps.length ≤ 2 * sizeTs ps
  | [], _ => by simp only [nodesTs, sizeTs, List.length_nil]; omega
  | t :: ts, h => by
    simp only [WfTs] at h
    simp only [nodesTs, sizeTs, List.length_cons]
    have := nodes_size t h.1
    have := nodesTs_size ts h.2
    omega
end
/-- an owned list of data against the empty one -/
theorem q_neNil {S : Own} {Q : KE} {g : Bool → Bool} {p : Addr} {xs : List D} {ps : List PyData} (hS : S p = some (.lst xs)) (h1 : toPs xs = some ps) (h2 : PyData.depthAll ps ≤ 189) : rvEqv g (.ref p) (.lst []) S Q = Q (.bl (g (decide (xs = [])))) S := by
  rw [q_eqO hS]
  have e1 : toP (vw S (.lst xs)) = some (.list ps) := by simp only [vw, toP, h1, Option.map_some]
  have e2 : toP (vw S (.lst [])) = some (.list []) := by simp only [vw, toP, toPs, Option.map_some]
  rw [q_eqv e1 e2]
  have hd : PyData.depth (.list ps) ≤ 190 := by simp only [PyData.depth]; omega
  have e3 : PyData.eqv (.list ps) (.list []) = decide (xs = []) := by
    cases xs with
    | nil => simp only [toPs] at h1; cases h1; simp [PyData.eqv, PyData.eqvAll]
    | cons x xs =>
      cases ps with
      | nil =>
        simp only [toPs] at h1
        split at h1 <;> cases h1
      | cons a b => simp [PyData.eqv, PyData.eqvAll]
  rw [e3]
  simp only [hd, true_and]
theorem trees_data {ts : List Tr} (h : ∀ t ∈ ts, WfT t ∧ sizeT t ≤ 90) : ∃ ps, toPs (treeDs ts) = some ps ∧ PyData.depthAll ps ≤ 189 := by
  obtain ⟨ps, h1, h2⟩ := toPs_tree (ts := ts) (B := 181) fun t ht => by
    obtain ⟨p, a, b⟩ := tree_data _ t (Nat.le_refl _) (h t ht).1
    exact ⟨p, a, by have := (h t ht).2; omega⟩
  exact ⟨ps, h1, by omega⟩
theorem Sub.none {S S' : Own} {p : Addr} (h : Sub S S') (hp : S' p = none) : S p = none := by
  cases e : S p with
  | none => rfl
  | some o => rw [h p o e] at hp; cases hp
theorem seq_cut {T U : TSv} {Dv : EndsV} {ρ : VS} {S : Own} (h : ∀ K : VS → Own → Prop, (∀ ρ' S', U Dv ρ' S' → K ρ' S') → T { nx := K, rt := Dv.rt, bk := Dv.bk, ct := Dv.ct } ρ S) : tvSeq T U Dv ρ S := h _ fun _ _ h => h
theorem seq_inv {T U : TSv} {Dv : EndsV} {ρ : VS} {S : Own} (I : VS → Own → Prop) (h : ∀ K : VS → Own → Prop, (∀ ρ' S', I ρ' S' → K ρ' S') → T { nx := K, rt := Dv.rt, bk := Dv.bk, ct := Dv.ct } ρ S) (h2 : ∀ ρ' S', I ρ' S' → U Dv ρ' S') : tvSeq T U Dv ρ S := h _ h2
def Same (S S' : Own) (p : Addr) : Prop := ∀ a, a ≠ p → S' a = S a
theorem Same.refl {S : Own} {p : Addr} : Same S S p := fun _ _ => rfl
theorem Same.trans {S S1 S2 : Own} {p : Addr} (a : Same S S1 p) (b : Same S1 S2 p) : Same S S2 p := fun c h => (b c h).trans (a c h)
theorem Same.ust {S : Own} {p : Addr} {o : Ob} : Same S (ust S p o) p := fun a h => ust_ne h
theorem Same.at {S S' : Own} {p a : Addr} {o : Ob} (h : Same S S' p) (hne : a ≠ p) (e : S a = some o) : S' a = some o := by rw [h a hne]; exact e
theorem BagAt.mono {S : Own} {p : Addr} {N M : Int} (h : BagAt S p N) (e : N ≤ M) : BagAt S p M := by
  obtain ⟨c, r, n, h1, h2⟩ := h
  exact ⟨c, r, n, h1, h2.mono e⟩
theorem BagAt.at {S S' : Own} {p a : Addr} {N : Int} (h : BagAt S p N) (s : Same S S' a) (hne : p ≠ a) : BagAt S' p N := by
  obtain ⟨c, r, n, h1, h2⟩ := h
  exact ⟨c, r, n, s.at hne h1, h2⟩
theorem Tb.same {S S' : Own} {x : Str} {p : Addr} {N : Int} (t : Tb S x) (b : BagAt S p N) (s : Same S S' p) : Tb S' x := by
  obtain ⟨P, e⟩ := t
  obtain ⟨c, r, n, h1, _⟩ := b
  exact ⟨P, s.at (fun z => by subst z; rw [h1] at e; cases e) e⟩
theorem BagAt.ne {S : Own} {p a : Addr} {N : Int} (b : BagAt S p N) (h : S a = none) : p ≠ a := by
  obtain ⟨c, r, n, h1, _⟩ := b
  exact own_ne h1 h
section
variable {S : Own} {Q : KE} {p : Addr} {N : Int}
theorem bag_b {ns : List Int} {a : Int} (h0 : 0 ≤ a) (h1 : a ≤ 1000) (q : ∀ b S', S b = none → Same S S' b → BagAt S' b 0 → Q (.ref b) S') : F_l_bag [.scr (ns.map D.int), .int a] S Q :=
  ⟨ns, a, rfl, h0, h1, fun b c r hb hk => q b _ hb .ust ⟨c, r, 0, ust_same, hk⟩⟩
theorem take_b {m : Int} (hb : BagAt S p N) (hN : N ≤ 2 ^ 40) (h0 : 0 < m) (h1 : m < 1073741824) (q : ∀ S' (d : Nat), Same S S' p → BagAt S' p (N + 1) → (d : Int) < m → Q (.int d) S') : F_l_take [.ref p, .int m] S Q := by
  obtain ⟨c, r, n, hS, hk⟩ := hb
  refine q_takeI hS hk hN h0 h1 fun c' r' n' d hk' d0 d1 => ?_
  obtain ⟨d, rfl⟩ := Int.eq_ofNat_of_zero_le d0
  exact q _ d .ust ⟨c', r', n', ust_same, hk'⟩ d1
theorem row_b {k : Int} {k' : Nat} (hk : k = k') (hb : BagAt S p N) (hN : N + k ≤ 2 ^ 40) (h0 : k' ≤ 1000) (q : ∀ S' l, Same S S' p → BagAt S' p (N + k) → Row l → l.length = k' → Q (tupI l) S') : F_l_row [.ref p, .int k] S Q := by
  subst hk
  obtain ⟨c, r, n, hS, hk⟩ := hb
  refine ⟨p, c, r, n, N, k', rfl, hS, hk, hN, h0, fun c' r' n' l hk' hl => ?_⟩
  have hll : l.length = k' := by rw [hl.length_eq, upto_length]
  exact q _ l .ust ⟨c', r', n', ust_same, hk'⟩ (by unfold Row; rw [hll]; exact hl) hll
end
end VL
namespace VL
open PySem PySem.Spec PyProof.Rows L2
/-- where the k-th of some rows begins -/
def bgL (rows : List (List Int)) (k : Nat) : Nat := totalL (rows.take k)
theorem bg_zero (rows : List (List Int)) : bgL rows 0 = 0 := rfl
theorem bg_all (rows : List (List Int)) : bgL rows rows.length = totalL rows := by unfold bgL; rw [List.take_length]
theorem bg_succ {rows : List (List Int)} {k : Nat} (h : k < rows.length) : bgL rows (k + 1) = bgL rows k + (rows.getD k []).length := by
  unfold bgL totalL
  rw [List.take_add_one, List.getElem?_eq_getElem h, List.map_append, List.sum_append, List.getD_eq_getElem?_getD, List.getElem?_eq_getElem h]
  simp
theorem bg_le {rows : List (List Int)} {j : Nat} : ∀ {k : Nat}, j ≤ k → k ≤ rows.length → bgL rows j ≤ bgL rows k
  | 0, h1, h2 => by
    obtain rfl : j = 0 := by omega
    exact Nat.le_refl _
  | k + 1, h1, h2 => by
    by_cases e : j = k + 1
    · subst e; exact Nat.le_refl _
    · have := bg_le (rows := rows) (j := j) (k := k) (by omega) (by omega)
      have := bg_succ (rows := rows) (k := k) (by omega)
      omega
theorem bg_lt {rows : List (List Int)} {j k i : Nat} (h : j < k) (hk : k ≤ rows.length) (hi : i < (rows.getD j []).length) : bgL rows j + i < bgL rows k := by
  have h1 := bg_succ (rows := rows) (k := j) (by omega)
  have h2 := bg_le (rows := rows) (j := j + 1) (k := k) (by omega) hk
  omega
theorem bg_sum {rows : List (List Int)} : ∀ {k : Nat}, k ≤ rows.length → bgL rows k = ((List.range k).map fun j => (rows.getD j []).length).sum
  | 0, _ => rfl
  | k + 1, h => by
    rw [bg_succ (by omega), bg_sum (k := k) (by omega), List.range_succ, List.map_append, List.sum_append]
    simp
/-- the row at a place, and the place in it -/
def kdx : List (List Int) → Nat → Nat × Nat
  | [], p => (0, p)
  | r :: rows, p => if p < r.length then (0, p) else ((kdx rows (p - r.length)).1 + 1, (kdx rows (p - r.length)).2)
theorem kdx_ok : ∀ {rows : List (List Int)} {p : Nat}, p < totalL rows → (kdx rows p).1 < rows.length ∧ (kdx rows p).2 < (rows.getD (kdx rows p).1 []).length ∧ p = bgL rows (kdx rows p).1 + (kdx rows p).2
  | [], p, h => by unfold totalL at h; simp at h
  | r :: rows, p, h => by
    unfold kdx
    split
    · rename_i hp
      exact ⟨by simp, by simpa using hp, by simp [bg_zero]⟩
    · rename_i hp
      have e : totalL (r :: rows) = r.length + totalL rows := by unfold totalL; simp
      obtain ⟨h1, h2, h3⟩ := kdx_ok (rows := rows) (p := p - r.length) (by omega)
      refine ⟨by simpa using h1, by simpa using h2, ?_⟩
      have e2 : bgL (r :: rows) ((kdx rows (p - r.length)).1 + 1) = r.length + bgL rows (kdx rows (p - r.length)).1 := by
        unfold bgL totalL; simp
      show p = bgL (r :: rows) ((kdx rows (p - r.length)).1 + 1) + (kdx rows (p - r.length)).2
      rw [e2]; omega
theorem flat_at {f : Nat → List Int} : ∀ {n k i : Nat}, k < n → i < (f k).length → at0 ((List.range n).flatMap f) (((List.range k).map fun j => (f j).length).sum + i) = at0 (f k) i
  | 0, k, i, h, _ => by omega
  | n + 1, k, i, h, hi => by
    have hlen : ∀ n, ((List.range n).flatMap f).length = ((List.range n).map fun j => (f j).length).sum := fun n => flat_length f _
    rw [List.range_succ, List.flatMap_append]
    simp only [List.flatMap_cons, List.flatMap_nil, List.append_nil]
    unfold at0
    by_cases hk : k < n
    · have ih := flat_at (f := f) hk hi
      unfold at0 at ih
      have hb : ((List.range k).map fun j => (f j).length).sum + i < ((List.range n).flatMap f).length := by
        rw [hlen]
        have e : List.range n = List.range k ++ (List.range (n - k)).map (k + ·) := by
          rw [← List.range_add]; congr 1; omega
        rw [e, List.map_append, List.sum_append]
        have e2 : List.range (n - k) = 0 :: (List.range (n - k - 1)).map (· + 1) := by
          rw [← List.range_succ_eq_map]; congr 1; omega
        rw [e2]
        simp only [List.map_cons, List.sum_cons, Nat.add_zero]
        omega
      rw [List.getD_eq_getElem?_getD, List.getElem?_append_left hb, ← List.getD_eq_getElem?_getD]
      exact ih
    · obtain rfl : k = n := by omega
      rw [List.getD_eq_getElem?_getD, List.getElem?_append_right (by rw [hlen]; omega), hlen, ← List.getD_eq_getElem?_getD]
      congr 1
      omega
theorem glue_at {sh : List Int} {rows : List (List Int)} {k i : Nat} (hk : k < rows.length) (hi : i < (rows.getD k []).length) : at0 (glue sh rows) (bgL rows k + i) = at0 (rows.getD k []) i + liftOf sh rows k := by
  have h := flat_at (f := fun k => (rows.getD k []).map (· + liftOf sh rows k)) (n := rows.length) (k := k) (i := i) hk (by rw [List.length_map]; exact hi)
  rw [at0_map hi] at h
  rw [← h, bg_sum (by omega)]
  unfold glue
  congr 2
  congr 1
  apply List.map_congr_left
  intro j _
  rw [List.length_map]
section
variable {sh : List Int} {rows : List (List Int)} {j k i i' : Nat}
theorem glue_same (hk : k < rows.length) (hi : i < (rows.getD k []).length) (hi' : i' < (rows.getD k []).length) : at0 (glue sh rows) (bgL rows k + i) < at0 (glue sh rows) (bgL rows k + i') ↔ at0 (rows.getD k []) i < at0 (rows.getD k []) i' := by
  rw [glue_at hk hi, glue_at hk hi']; omega
end
def Cvx (l : List Int) (a b : Nat) : Prop := ∀ p q r, a ≤ p → p < b → a ≤ q → q < b → r < l.length → at0 l p < at0 l r → at0 l r < at0 l q → a ≤ r ∧ r < b
def RiseAt (l : List Int) (p : Nat) : Prop := ∀ i j, i < p → p ≤ j → j < l.length → at0 l i < at0 l j
theorem RiseAt.low {l : List Int} {p : Nat} (h : RiseAt l p) (hp : p ≤ l.length) : Cvx l 0 p := fun a b r _ _ _ h2 hr h3 h4 => by
  refine ⟨Nat.zero_le _, ?_⟩
  by_cases e : r < p
  · exact e
  · have := h b r h2 (by omega) hr; omega
theorem RiseAt.high {l : List Int} {p : Nat} (h : RiseAt l p) : Cvx l p l.length := fun a b r h1 h2 h3 h4 hr h5 h6 => by
  refine ⟨?_, hr⟩
  by_cases e : p ≤ r
  · exact e
  · have := h r a (by omega) h1 h2; omega
/-- the rows of the parts -/
abbrev krT (t : Tr) : List (List Int) := orderTs (kidsT t)
structure NodeOk (t : Tr) : Prop where
  row : ∀ r ∈ krT t, Row r
  nd : (shT t).Nodup
  len : (shT t).length = (krT t).length
  two : 2 ≤ (krT t).length
  tot : totalL (krT t) = sizeT t
  ord : orderT t = glue (shT t) (krT t)
  one : ∀ k, k < (krT t).length → 1 ≤ ((krT t).getD k []).length
  kid : ∀ k, k < (krT t).length → ∃ u, (kidsT t)[k]? = some u ∧ WfT u ∧ sizeT u + 1 ≤ sizeT t ∧ (krT t).getD k [] = orderT u ∧ ((krT t).getD k []).length = sizeT u
section
variable {t : Tr}
theorem ord_len (hw : WfT t) : (orderT t).length = sizeT t := (orderT_ok t hw).2
theorem NodeOk.same (n : NodeOk t) {k i i' : Nat} (hk : k < (krT t).length) (hi : i < ((krT t).getD k []).length) (hi' : i' < ((krT t).getD k []).length) : at0 (orderT t) (bgL (krT t) k + i) < at0 (orderT t) (bgL (krT t) k + i') ↔ at0 ((krT t).getD k []) i < at0 ((krT t).getD k []) i' := by
  rw [n.ord]; exact glue_same hk hi hi'
theorem NodeOk.split (n : NodeOk t) {p : Nat} (hp : p < sizeT t) : ∃ k i, k < (krT t).length ∧ i < ((krT t).getD k []).length ∧ p = bgL (krT t) k + i := ⟨_, _, kdx_ok (by rw [n.tot]; exact hp)⟩
theorem NodeOk.top (n : NodeOk t) {k : Nat} (hk : k ≤ (krT t).length) : bgL (krT t) k ≤ sizeT t := by
  rw [← n.tot, ← bg_all]; exact bg_le hk (Nat.le_refl _)
end
end VL
namespace VL
open PySem PySem.Spec PyProof.Rows L2
/-- what stands in a part stands in the whole -/
theorem NodeOk.up {t : Tr} (n : NodeOk t) (hw : WfT t) {k : Nat} (hk : k < (krT t).length) {s : List Int} {e : Nat → Nat} (h : StF s ((krT t).getD k []) e) : StF s (orderT t) (fun a => bgL (krT t) k + e a) :=
  ⟨fun a b hab hb => by have := h.inc a b hab hb; show bgL (krT t) k + e a < bgL (krT t) k + e b; omega, fun a ha => by
    rw [ord_len hw, ← n.tot, ← bg_all]; exact bg_lt hk (Nat.le_refl _) (h.lt a ha), fun a b ha hb => by
    rw [h.like a b ha hb]; exact (n.same hk (h.lt a ha) (h.lt b hb)).symm⟩
end VL
namespace VL
open PySem PySem.Spec PyProof.Rows L2
section
variable {K : PySem.W.Frag} {H : Hp} {S : Own} {Z : Addr → Prop}
end
mutual
def pdT : Tr → PyData
  | .one => .tuple [.str "one"]
  | .run up ps => .tuple [.str (wordOf up), .tuple (pdTs ps)]
  | .shp sh ps => .tuple [.str "shape", .tuple (sh.map PyData.int), .tuple (pdTs ps)]
def pdTs : List Tr → List PyData
  | [] => []
  | t :: ts => pdT t :: pdTs ts
end
mutual
theorem toP_tree : ∀ t : Tr, toP (treeD t) = some (pdT t)
  | .one => by simp only [treeD, toP, toPs, pdT, Option.map_some]
  | .run up ps => by simp only [treeD, toP, toPs, pdT, toPs_trees ps, Option.map_some]
  | .shp sh ps => by simp only [treeD, tupI, toP, toPs, toPs_ints, pdT, toPs_trees ps, Option.map_some]
theorem toPs_trees : ∀ ps : List Tr, toPs (treeDs ps) = some (pdTs ps)
  | [] => by simp only [treeDs, toPs, pdTs]
  | t :: ts => by simp only [treeDs, toPs, pdTs, toP_tree t, toPs_trees ts]
end
mutual
theorem eqv_tree : ∀ t u : Tr, PyData.eqv (pdT t) (pdT u) = true → t = u
  | .one, .one, _ => rfl
  | .one, .run up ps, h => by simp [pdT, PyData.eqv, PyData.eqvAll] at h
  | .one, .shp sh ps, h => by simp [pdT, PyData.eqv, PyData.eqvAll] at h
  | .run up ps, .one, h => by simp [pdT, PyData.eqv, PyData.eqvAll] at h
  | .shp sh ps, .one, h => by simp [pdT, PyData.eqv, PyData.eqvAll] at h
  | .run up ps, .shp sh qs, h => by simp [pdT, PyData.eqv, PyData.eqvAll] at h
  | .shp sh ps, .run up qs, h => by simp [pdT, PyData.eqv, PyData.eqvAll] at h
  | .run up ps, .run up' qs, h => by
    simp only [pdT, PyData.eqv, PyData.eqvAll, Bool.and_true, Bool.and_eq_true] at h
    have h1 := eqv_trees ps qs h.2
    have h2 := beq_iff_eq.mp h.1
    rw [h1]
    cases up <;> cases up' <;> first | rfl | (exact absurd h2 (by decide))
  | .shp sh ps, .shp sh' qs, h => by
    simp only [pdT, PyData.eqv, PyData.eqvAll, Bool.and_true, Bool.and_eq_true, eqvAll_ints, decide_eq_true_eq] at h
    rw [h.2.1, eqv_trees ps qs h.2.2]
theorem eqv_trees : ∀ ps qs : List Tr, PyData.eqvAll (pdTs ps) (pdTs qs) = true → ps = qs
  | [], [], _ => rfl
  | [], q :: qs, h => by simp [pdTs, PyData.eqvAll] at h
  | p :: ps, [], h => by simp [pdTs, PyData.eqvAll] at h
  | p :: ps, q :: qs, h => by
    simp only [pdTs, PyData.eqvAll, Bool.and_eq_true] at h
    rw [eqv_tree p q h.1, eqv_trees ps qs h.2]
end
theorem q_eqTr {S : Own} {Q : KE} {g : Bool → Bool} {t u : Tr} {b : Bool} (hw : WfT t) (hs : sizeT t ≤ 90) (hb : b = true ↔ t = u) (q : Q (.bl (g b)) S) : rvEqv g (treeD t) (treeD u) S Q := by
  have e : ∀ t, toP (vw S (treeD t)) = some (pdT t) := fun t => by
    have := toP_tree t
    cases t <;> (simp only [treeD, vw] at this ⊢; exact this)
  rw [q_eqv (e t) (e u)]
  obtain ⟨p, h1, h2⟩ := tree_data _ t (Nat.le_refl _) hw
  rw [toP_tree] at h1
  cases h1
  refine ⟨by omega, ?_⟩
  have e2 : PyData.eqv (pdT t) (pdT u) = b := by
    rw [Bool.eq_iff_iff, hb]
    refine ⟨eqv_tree t u, fun h => ?_⟩
    rw [h]
    exact PySem.SeqAt.eqv_refl_plain _ (toP_plain _ _ (toP_tree u))
  rw [e2]
  exact q
theorem q_eqTrS {S : Own} {Q : KE} {g : Bool → Bool} {t : Tr} (hw : WfT t) (hs : sizeT t ≤ 90) (q : Q (.bl (g true)) S) : rvEqv g (treeD t) (treeD t) S Q := q_eqTr hw hs (b := true) ⟨fun _ => rfl, fun _ => rfl⟩ q
end VL
namespace VL
open PySem PySem.Spec PyProof.Rows L2
/-- what a caller knows of a method -/
structure CalM (P : Program) (w : World) (K : PySem.W.Frag) (mg : Str → Option Value) (base : Heap) (k : Nat) (C : Addr) (m : Str) (ps : List Str) (F : FS) : Prop where
  ex : ∃ (f : Addr) (fd : FuncData), Cls K C ∧ Meth K C m f ∧ FnOk P w K mg base CX0 k f fd ps (spV K F) ∧ Binds K fd ps []
theorem CalM.mono {P : Program} {w : World} {K : PySem.W.Frag} {mg : Str → Option Value} {base : Heap} {k k' : Nat} {C : Addr} {m : Str} {ps : List Str} {F : FS} (c : CalM P w K mg base k C m ps F) (h : k ≤ k') : CalM P w K mg base k' C m ps F :=
  let ⟨f, fd, a, b, G, r⟩ := c.ex; ⟨f, fd, a, b, G.mono h, r⟩
/-- .. and of a class that is called -/
structure CalN (P : Program) (w : World) (K : PySem.W.Frag) (mg : Str → Option Value) (base : Heap) (k : Nat) (x : Str) (C : Addr) (ps : List Str) (F : FS) : Prop where
  ex : ∃ (f : Addr) (fd : FuncData), Mk K C f ∧ mg x = some (.ref C) ∧ FnOk P w K mg base CX0 k f fd ps (spV K F) ∧ Binds K fd ps []
theorem CalN.mono {P : Program} {w : World} {K : PySem.W.Frag} {mg : Str → Option Value} {base : Heap} {k k' : Nat} {x : Str} {C : Addr} {ps : List Str} {F : FS} (c : CalN P w K mg base k x C ps F) (h : k ≤ k') : CalN P w K mg base k' x C ps F :=
  let ⟨f, fd, a, b, G, r⟩ := c.ex; ⟨f, fd, a, b, G.mono h, r⟩
section
variable {K : PySem.W.Frag} {H : Hp} {S : Own} {Z : Addr → Prop}
end
section
variable {X : Cx}
end
end VL
namespace VL
open PySem PySem.Spec PyProof.Rows L2
section
variable {X : Cx}
end
def cv (a b : Nat → Int) (n : Nat) : Int := ((List.range (n - 1)).map fun i => a (i + 1) * b (n - (i + 1))).sum
def wy (t : Nat → Int) : Nat → Nat → Int
  | 0 => fun _ => 0
  | 1 => t
  | p + 2 => fun n => cv t (wy t (p + 1)) n
def shpS (many : List Int) (t : Nat → Int) (n : Nat) : Int := ((List.range many.length).map fun k => many.getD k 0 * wy t (4 + k) n).sum
def nextT (many : List Int) (l : List (Int × Int)) : Int × Int :=
  (2 * cv (fun k => (l.getD k (0, 0)).1 - (l.getD k (0, 0)).2) (fun k => (l.getD k (0, 0)).1) l.length + shpS many (fun k => (l.getD k (0, 0)).1) l.length, cv (fun k => (l.getD k (0, 0)).1 - (l.getD k (0, 0)).2) (fun k => (l.getD k (0, 0)).1) l.length)
def tabT (many : List Int) : Nat → List (Int × Int)
  | 0 => [(0, 0), (1, 0)]
  | n + 1 => tabT many n ++ [nextT many (tabT many n)]
/-- how many of a size there are in all, and how many of them are rises -/
def tS (many : List Int) (n : Nat) : Int := ((tabT many n).getD n (0, 0)).1
def rS (many : List Int) (n : Nat) : Int := ((tabT many n).getD n (0, 0)).2
/-- a sequence's beginning -/
def seqI (f : Nat → Int) (n : Nat) : List Int := (List.range n).map f
structure ManyOk (many : List Int) : Prop where
  len : many.length ≤ 4
  ran : ∀ m ∈ many, 0 ≤ m ∧ m ≤ 512
def sumsF (many : List Int) (a b : Addr) (ws : List Addr) : List (Str × D) := [("many_shapes", tupI many), ("total", .ref a), ("rising", .ref b), ("ways", .lst (ws.map D.ref))]
/-- sums stand at p, worked out to these lengths -/
structure SumsAt (C : Addr) (S : Own) (p : Addr) (many : List Int) (Lt Lr : Nat) (Lw : Nat → Nat) (a b : Addr) (ws : List Addr) : Prop where
  ob : S p = some (.ins C (sumsF many a b ws))
  tot : S a = some (.lst ((seqI (tS many) Lt).map D.int))
  ris : S b = some (.lst ((seqI (rS many) Lr).map D.int))
  wl : ws.length = 8
  way : ∀ j w, 1 ≤ j → ws[j]? = some w → S w = some (.lst ((seqI (wy (tS many) j) (Lw j)).map D.int))
  nd : (p :: a :: b :: ws).Nodup
  mok : ManyOk many
section
variable {C : Addr} {S : Own} {p : Addr} {many : List Int} {Lt Lr : Nat} {Lw : Nat → Nat} {a b : Addr} {ws : List Addr}
end
end VL
namespace VL
open PySem PySem.Spec PyProof.Rows L2
section
variable {X : Cx}
end
section
variable {C : Addr} {S : Own} {p : Addr} {many : List Int} {Lt Lr : Nat} {Lw : Nat → Nat} {a b : Addr} {ws : List Addr}
theorem SumsAt.all (h : SumsAt C S p many Lt Lr Lw a b ws) : p ≠ a ∧ p ≠ b ∧ p ∉ ws ∧ a ≠ b ∧ a ∉ ws ∧ b ∉ ws ∧ ws.Nodup := by
  have := h.nd
  simp only [List.nodup_cons, List.mem_cons, not_or] at this
  exact ⟨this.1.1, this.1.2.1, this.1.2.2, this.2.1.1, this.2.1.2, this.2.2.1, this.2.2.2⟩
theorem SumsAt.lw (h : SumsAt C S p many Lt Lr Lw a b ws) {Lw' : Nat → Nat} (e : ∀ i, 1 ≤ i → i < 8 → Lw' i = Lw i) : SumsAt C S p many Lt Lr Lw' a b ws :=
  ⟨h.ob, h.tot, h.ris, h.wl, fun j w hj hw => by
    have := (List.getElem?_eq_some_iff.mp hw).1
    rw [h.wl] at this
    rw [e j hj this]; exact h.way j w hj hw, h.nd, h.mok⟩
end
/-- all but some is as it was -/
def But (S S' : Own) (as : List Addr) : Prop := ∀ x, x ∉ as → S' x = S x
theorem But.refl {S : Own} {as : List Addr} : But S S as := fun _ _ => rfl
theorem But.ust {S S' : Own} {as : List Addr} {p : Addr} {o : Ob} (h : But S S' as) (hp : p ∈ as) : But S (ust S' p o) as := fun x hx => by rw [ust_ne (fun e : x = p => hx (e ▸ hp))]; exact h x hx
theorem But.trans {S S1 S2 : Own} {as : List Addr} (a : But S S1 as) (b : But S1 S2 as) : But S S2 as := fun x hx => (b x hx).trans (a x hx)
end VL
namespace VL
open PySem PySem.Spec PyProof.Rows L2
section
variable {K : PySem.W.Frag}
end
structure LawS (S : Own) (t r : Addr) (us : List Addr) (many : List Int) (Lt Lr : Nat) (Lw : Nat → Nat) : Prop where
  tot : S t = some (.lst ((seqI (tS many) Lt).map D.int))
  ris : S r = some (.lst ((seqI (rS many) Lr).map D.int))
  ul : us.length = 6
  way : ∀ j w, us[j]? = some w → S w = some (.lst ((seqI (wy (tS many) (j + 2)) (Lw j)).map D.int))
  nd : (t :: r :: us).Nodup
section
variable {S : Own} {t r : Addr} {us : List Addr} {many : List Int} {Lt Lr : Nat} {Lw : Nat → Nat}
theorem LawS.all (h : LawS S t r us many Lt Lr Lw) : t ≠ r ∧ t ∉ us ∧ r ∉ us ∧ us.Nodup := by
  have := h.nd
  simp only [List.nodup_cons, List.mem_cons, not_or] at this
  exact ⟨this.1.1, this.1.2, this.2.1, this.2.2⟩
theorem LawS.lw (h : LawS S t r us many Lt Lr Lw) {Lw' : Nat → Nat} (e : ∀ i, i < 6 → Lw' i = Lw i) : LawS S t r us many Lt Lr Lw' :=
  ⟨h.tot, h.ris, h.ul, fun j w hw => by
    have := (List.getElem?_eq_some_iff.mp hw).1
    rw [h.ul] at this
    rw [e j this]; exact h.way j w hw, h.nd⟩
end
def profL (rows : List (List Int)) : List Int := [4, 5, 6, 7].map fun s => (((rows.map fun r => (r.length : Int)).count s : Nat) : Int)
def shD (rows : List (List Int)) : D := .tup (rows.map tupI)
end VL
namespace VL
open PySem PySem.Spec PyProof.Rows L2
theorem getD_at {l : List (List Int)} {k : Nat} (h : k < l.length) : l.getD k [] = l[k] := by
  rw [List.getD_eq_getElem?_getD, List.getElem?_eq_getElem h]; rfl
theorem ddL_nodup {l : List (List Int)} (hs : l.Pairwise fun a b => leP a b = true) : (ddL l).Nodup := by
  unfold ddL
  rw [List.Nodup, List.pairwise_map]
  have h0 : ((List.range l.length).filter fun k => decide (k = 0) || !decide (l.getD (k - 1) [] = l.getD k [])).Pairwise (· < ·) := List.Pairwise.filter _ List.pairwise_lt_range
  refine List.Pairwise.imp_of_mem ?_ h0
  intro a b ha hb hab e
  have ha1 := List.mem_range.mp (List.mem_filter.mp ha).1
  have hb1 := List.mem_range.mp (List.mem_filter.mp hb).1
  have hb2 := (List.mem_filter.mp hb).2
  have hp := List.pairwise_iff_getElem.mp hs
  rw [getD_at ha1, getD_at hb1] at e
  simp only [Bool.or_eq_true, decide_eq_true_eq, Bool.not_eq_true', decide_eq_false_iff_not] at hb2
  rcases hb2 with hb2 | hb2
  · omega
  · refine hb2 ?_
    rw [getD_at (show b - 1 < l.length by omega), getD_at hb1]
    have h2 := hp (b - 1) b (by omega) hb1 (by omega)
    by_cases e2 : a = b - 1
    · subst e2; exact e
    · have h1 := hp a (b - 1) ha1 (by omega) (by omega)
      rw [e] at h1
      exact leP_anti h2 h1
theorem inOrd_nodup (rows : List (List Int)) : (inOrdL rows).Nodup := (ddL_nodup (srtP_sorted rows)).sublist (List.take_sublist _ _)
/-- the shelves that laws draw -/
def ShelfOk (rows : List (List Int)) : Prop := rows.length ≤ 20 ∧ rows.Nodup ∧ ∀ r ∈ rows, 4 ≤ r.length ∧ r.length ≤ 7
theorem ShelfOk.back {rows : List (List Int)} (h : ShelfOk rows) : ShelfOk (inOrdL (rows.map List.reverse)) := ⟨inOrd_len _, inOrd_nodup _, fun r hr => by
  obtain ⟨y, hy, rfl⟩ := List.mem_map.mp (inOrd_mem hr)
  rw [List.length_reverse]
  exact h.2.2 y hy⟩
theorem blsD_all {l : List D} (h : ∀ d ∈ l, d = .bl true) : blsD l = some (List.replicate l.length true) := by
  induction l with
  | nil => rfl
  | cons a r ih =>
    rw [h a (by simp)]
    simp only [blsD, ih fun d hd => h d (by simp [hd]), Option.map_some, List.length_cons, List.replicate_succ]
theorem all_true (n : Nat) : (List.replicate n true).all id = true := by
  rw [List.all_eq_true]; intro b hb; rw [List.eq_of_mem_replicate hb]; rfl
end VL
namespace VL
open PySem PySem.Spec PyProof.Rows L2
abbrev Trip := List Tr × List Tr × List Tr
def evrL (l : List Trip) (k : Nat) : List Tr := let x := l.getD k ([], [], []); x.1 ++ x.2.1 ++ x.2.2
/-- the ends that a run may begin with -/
def endL (up : Bool) (x : Trip) : List Tr := if up = true then x.2.1 ++ x.2.2 else x.1 ++ x.2.2
def shpIs (sh : List Int) : Tr → Bool
  | .shp s _ => decide (s = sh)
  | _ => false
/-- what holds of the trees of size k -/
structure TripOk (shelf : List (List Int)) (k : Nat) (x : Trip) : Prop where
  up : ∀ t ∈ x.1, WfT t ∧ sizeT t = k ∧ headT t = some true
  dn : ∀ t ∈ x.2.1, WfT t ∧ sizeT t = k ∧ headT t = some false
  oth : ∀ t ∈ x.2.2, WfT t ∧ sizeT t = k ∧ headT t = none
  nup : (x.1.length : Int) = rS (profL shelf) k
  ndn : (x.2.1.length : Int) = rS (profL shelf) k
  nall : (x.1.length : Int) + x.2.1.length + x.2.2.length = tS (profL shelf) k
  nshp : ∀ sh ∈ shelf, ((x.2.2.countP (shpIs sh) : Nat) : Int) = wy (tS (profL shelf)) sh.length k
  none : 2 ≤ k → .one ∉ x.2.2
def TabOk (shelf : List (List Int)) (l : List Trip) : Prop := ∀ k, k < l.length → TripOk shelf k (l.getD k ([], [], []))
theorem TabOk.ends {shelf : List (List Int)} {l : List Trip} (h : TabOk shelf l) {k : Nat} (hk : k < l.length) (up : Bool) : (∀ t ∈ endL up (l.getD k ([], [], [])), WfT t ∧ sizeT t = k ∧ headT t ≠ some up) ∧ ((endL up (l.getD k ([], [], []))).length : Int) = tS (profL shelf) k - rS (profL shelf) k := by
  have H := h k hk
  have h1 := H.nup
  have h2 := H.ndn
  have h3 := H.nall
  cases up with
  | true =>
    refine ⟨fun t ht => ?_, ?_⟩
    · rcases List.mem_append.mp ht with ht | ht
      · have := H.dn t ht; exact ⟨this.1, this.2.1, by rw [this.2.2]; simp⟩
      · have := H.oth t ht; exact ⟨this.1, this.2.1, by rw [this.2.2]; simp⟩
    · unfold endL; rw [if_pos rfl, List.length_append]; omega
  | false =>
    refine ⟨fun t ht => ?_, ?_⟩
    · rcases List.mem_append.mp ht with ht | ht
      · have := H.up t ht; exact ⟨this.1, this.2.1, by rw [this.2.2]; simp⟩
      · have := H.oth t ht; exact ⟨this.1, this.2.1, by rw [this.2.2]; simp⟩
    · unfold endL; rw [if_neg (by simp), List.length_append]; omega
/-- the shapes of a shelf -/
def ShelfU (shelf : List (List Int)) : Prop := shelf.length ≤ 20 ∧ shelf.Nodup ∧ ∀ r ∈ shelf, Unb r ∧ r.length ≤ 7
theorem unb_len4 {r : List Int} (h : Unb r) : 4 ≤ r.length := h.len
end VL
namespace VL
open PySem PySem.Spec PyProof.Rows L2
def rowsD (l : List Tr) : D := .lst (l.map fun t => tupI (orderT t))
def lisF (shelf : List (List Int)) (a b c : Addr) : List (Str × D) := [("shelf", shD shelf), ("rises", .ref a), ("falls", .ref b), ("others", .ref c)]
structure LisAt (C : Addr) (S : Own) (p : Addr) (shelf : List (List Int)) (tab : List Trip) (a b c : Addr) : Prop where
  ob : S p = some (.ins C (lisF shelf a b c))
  up : S a = some (.lst (tab.map fun x => rowsD x.1))
  dn : S b = some (.lst (tab.map fun x => rowsD x.2.1))
  oth : S c = some (.lst (tab.map fun x => rowsD x.2.2))
  nd : [p, a, b, c].Nodup
  ok : TabOk shelf tab
  sh : ShelfU shelf
  len : 2 ≤ tab.length ∧ tab.length ≤ 8
section
variable {C : Addr} {S : Own} {p : Addr} {shelf : List (List Int)} {tab : List Trip} {a b c : Addr}
end
theorem LisAt.ust (h : LisAt C S p shelf tab a b c) {u : Addr} {o : Ob} (hu : S u = none) : LisAt C (ust S u o) p shelf tab a b c :=
  ⟨by rw [ust_ne (own_ne h.ob hu)]; exact h.ob, by rw [ust_ne (own_ne h.up hu)]; exact h.up, by rw [ust_ne (own_ne h.dn hu)]; exact h.dn, by rw [ust_ne (own_ne h.oth hu)]; exact h.oth, h.nd, h.ok, h.sh, h.len⟩
end VL
namespace VL
open PySem PySem.Spec PyProof.Rows L2
theorem comp_each {α : Type} {enc out : α → D} {t : Tg} {Te : TEv} {ρ : VS} {S : Own} : ∀ (xs : List α) (Q : List D → Own → Prop), (∀ x ∈ xs, ∃ ρ2, bindV t (enc x) ρ = some ρ2 ∧ ∀ Q' : KE, Q' (out x) S → Te ρ2 S Q') → Q (xs.map out) S → compV t ttYes Te ρ (xs.map enc) S Q := fun xs Q h q => by
  refine comp_inv (fun i ys S' => S' = S ∧ ys = (xs.take i).map out) (fun i d ys S' hd hi => ?_) ⟨rfl, rfl⟩ fun ys S' hi => ?_
  · obtain ⟨rfl, rfl⟩ := hi
    rw [List.getElem?_map] at hd
    cases hx : xs[i]? with
    | none => rw [hx] at hd; cases hd
    | some x =>
      rw [hx] at hd; cases hd
      obtain ⟨ρ2, h1, h2⟩ := h x (List.mem_of_getElem? hx)
      refine ⟨ρ2, h1, fun k hk => h2 _ (hk _ _ ⟨rfl, ?_⟩)⟩
      rw [List.take_add_one, hx, List.map_append]; rfl
  · obtain ⟨rfl, rfl⟩ := hi
    rw [List.length_map, List.take_length]; exact q
end VL
namespace VL
open PySem PySem.Spec PyProof.Rows L2
/-- a comprehension with a test over encoded items -/
theorem comp_eachT {α : Type} {enc out : α → D} (c : α → Bool) {t : Tg} {Tt : TTv} {Te : TEv} {ρ : VS} {S : Own} : ∀ (xs : List α) (Q : List D → Own → Prop), (∀ x ∈ xs, ∃ ρ2, bindV t (enc x) ρ = some ρ2 ∧ (∀ Q' : Bool → Own → Prop, Q' (c x) S → Tt ρ2 S Q') ∧ (c x = true → ∀ Q' : KE, Q' (out x) S → Te ρ2 S Q')) → Q ((xs.filter c).map out) S → compV t Tt Te ρ (xs.map enc) S Q
  | [], Q, h, q => q
  | d :: ds, Q, h, q => by
    obtain ⟨ρ2, h1, h2, h3⟩ := h d (by simp)
    rw [List.map_cons, comp_cons h1]
    refine h2 _ ?_
    rw [List.filter_cons] at q
    cases e : c d with
    | true =>
      rw [e] at q
      simp only [if_true] at q ⊢
      exact h3 e _ (comp_eachT c ds _ (fun d' hd => h d' (by simp [hd])) q)
    | false =>
      rw [e] at q
      simp only [Bool.false_eq_true, if_false] at q ⊢
      exact comp_eachT c ds _ (fun d' hd => h d' (by simp [hd])) q
/-- the seen list at p, the bag at b, the table of the lambda -/
structure StL (S : Own) (p b : Addr) (xs : List D) (N : Int) : Prop where
  seen : S p = some (.lst xs)
  bag : BagAt S b N
  ne : p ≠ b
  tb : Tb S "in_order"
theorem StL.same {S S' : Own} {p b : Addr} {xs : List D} {N M : Int} (h : StL S p b xs N) (s : Same S S' b) (hb : BagAt S' b M) : StL S' p b xs M :=
  ⟨s.at h.ne h.seen, hb, h.ne, h.tb.same h.bag s⟩
theorem StL.mono {S : Own} {p b : Addr} {xs : List D} {N M : Int} (h : StL S p b xs N) (e : N ≤ M) : StL S p b xs M := ⟨h.seen, h.bag.mono e, h.ne, h.tb⟩
/-- another list changed -/
theorem StL.put {S : Own} {p b a : Addr} {xs ys : List D} {o : Ob} {N : Int} (h : StL S p b xs N) (ha : S a = none) : StL (ust S a o) p b xs N := by
  obtain ⟨c, r, n, h1, h2⟩ := h.bag
  exact ⟨by rw [ust_ne (own_ne h.seen ha)]; exact h.seen, ⟨c, r, n, by rw [ust_ne (own_ne h1 ha)]; exact h1, h2⟩, h.ne, h.tb.new ha⟩
end VL
namespace VL
open PySem PySem.Spec PyProof.Rows L2
def psum (f : Nat → Int) (s : Nat) : Int := ((List.range (s - 1)).map fun i => f (i + 1)).sum
section
variable {a b : Nat → Int} {N s s' : Nat} {q y q' y' : Int}
end
abbrev tN (shelf : List (List Int)) (n : Nat) : Int := tS (profL shelf) n
abbrev rN (shelf : List (List Int)) (n : Nat) : Int := rS (profL shelf) n
abbrev eN (shelf : List (List Int)) (n : Nat) : Int := tS (profL shelf) n - rS (profL shelf) n
abbrev wN (shelf : List (List Int)) (p n : Nat) : Int := wy (tS (profL shelf)) p n
def ahR (shelf : List (List Int)) (N s : Nat) : Int := psum (fun k => eN shelf k * tN shelf (N - k)) s
def ahP (shelf : List (List Int)) (p N s : Nat) : Int := psum (fun k => tN shelf k * wN shelf p (N - k)) s
def begN (shelf : List (List Int)) (up : Bool) (n : Nat) : Int := if up = true then 0 else rN shelf n
def firstN (shelf : List (List Int)) (up : Bool) (s : Nat) (x : Int) : Int := if x < rN shelf s + begN shelf up s then x else x - rN shelf s
def shW (shelf : List (List Int)) (n k : Nat) : Int := wN shelf (shelf.getD (k - 1) []).length n
def shAh (shelf : List (List Int)) (sh : List Int) (n : Nat) : Int := psum (shW shelf n) (shelf.idxOf sh + 1)
mutual
def numT (shelf : List (List Int)) : Tr → Int
  | .one => 0
  | .run up ps => numR shelf up ps
  | .shp sh ps => numP shelf ps + shAh shelf sh (sizeTs ps) + 2 * rN shelf (sizeTs ps)
def numR (shelf : List (List Int)) (up : Bool) : List Tr → Int
  | [] => 0
  | t :: ts => if ts.isEmpty = true then numT shelf t else ahR shelf (sizeT t + sizeTs ts) (sizeT t) + firstN shelf up (sizeT t) (numT shelf t) * tN shelf (sizeTs ts) + numR shelf up ts + begN shelf up (sizeT t + sizeTs ts)
def numP (shelf : List (List Int)) : List Tr → Int
  | [] => 0
  | t :: ts => if ts.isEmpty = true then numT shelf t else ahP shelf ts.length (sizeT t + sizeTs ts) (sizeT t) + numT shelf t * wN shelf ts.length (sizeTs ts) + numP shelf ts
end
structure Posi (shelf : List (List Int)) : Prop where
  r0 : ∀ n, 0 ≤ rN shelf n
  t2 : ∀ n, 1 ≤ n → 2 * rN shelf n ≤ tN shelf n
  w0 : ∀ p n, 0 ≤ wN shelf p n
theorem Posi.t0 {shelf : List (List Int)} (P : Posi shelf) (n : Nat) : 0 ≤ tN shelf n := P.w0 1 n
theorem Posi.e0 {shelf : List (List Int)} (P : Posi shelf) {n : Nat} (h : 1 ≤ n) : 0 ≤ eN shelf n := by
  have := P.t2 n h
  have := P.r0 n
  show 0 ≤ tN shelf n - rN shelf n
  omega
theorem Posi.tw {shelf : List (List Int)} (P : Posi shelf) {p N : Nat} : ∀ k, 1 ≤ k → k < N → 0 ≤ tN shelf k ∧ 0 ≤ wN shelf p k := fun k _ _ => ⟨P.t0 k, P.w0 p k⟩
def Rng (shelf : List (List Int)) (t : Tr) : Prop := (0 ≤ numT shelf t ∧ numT shelf t < tN shelf (sizeT t)) ∧ (∀ up, headT t = some up → begN shelf up (sizeT t) ≤ numT shelf t ∧ numT shelf t < begN shelf up (sizeT t) + rN shelf (sizeT t)) ∧ (headT t = none → 2 * rN shelf (sizeT t) ≤ numT shelf t)
theorem Rng.other {shelf : List (List Int)} {t : Tr} (h : Rng shelf t) (P : Posi shelf) {up : Bool} (hh : headT t ≠ some up) : (up = true → rN shelf (sizeT t) ≤ numT shelf t) ∧ (up = false → numT shelf t < rN shelf (sizeT t) ∨ 2 * rN shelf (sizeT t) ≤ numT shelf t) := by
  have r0 := P.r0 (sizeT t)
  cases e : headT t with
  | none => have := h.2.2 e; exact ⟨fun _ => by omega, fun _ => .inr this⟩
  | some u =>
    have h2 := h.2.1 u e
    unfold begN at h2
    refine ⟨fun hu => ?_, fun hu => ?_⟩
    · subst hu
      cases u with
      | true => exact absurd e hh
      | false => simp only [Bool.false_eq_true, if_false] at h2; omega
    · subst hu
      cases u with
      | false => exact absurd e hh
      | true => simp only [if_true] at h2; omega
end VL
namespace VL
open PySem PySem.Spec PyProof.Rows L2
/-- each tree of a class is there -/
def FullT (shelf : List (List Int)) (l : List Trip) : Prop := ∀ t, WfT t → (∀ s ∈ shapesT t, s ∈ shelf) → sizeT t < l.length → t ∈ evrL l (sizeT t)
theorem FullT.ends {shelf : List (List Int)} {l : List Trip} (h : FullT shelf l) (hok : TabOk shelf l) {t : Tr} (hw : WfT t) (hs : ∀ s ∈ shapesT t, s ∈ shelf) (hl : sizeT t < l.length) {up : Bool} (hh : headT t ≠ some up) : t ∈ endL up (l.getD (sizeT t) ([], [], [])) := by
  have hm := h t hw hs hl
  have H := hok _ hl
  unfold evrL at hm
  unfold endL
  rcases List.mem_append.mp hm with hm | hm
  · rcases List.mem_append.mp hm with hm | hm
    · have := (H.up t hm).2.2
      cases up with
      | true => exact absurd this hh
      | false => rw [if_neg (by simp)]; exact List.mem_append_left _ hm
    · have := (H.dn t hm).2.2
      cases up with
      | true => rw [if_pos rfl]; exact List.mem_append_left _ hm
      | false => exact absurd this hh
  · cases up with
    | true => rw [if_pos rfl]; exact List.mem_append_right _ hm
    | false => rw [if_neg (by simp)]; exact List.mem_append_right _ hm
theorem size_some : ∀ (ps : List Tr), WfTs ps → ∀ {p : Tr}, p ∈ ps → sizeT p + ps.length ≤ sizeTs ps + 1
  | [], _, p, h => absurd h List.not_mem_nil
  | t :: ts, hw, p, h => by
    simp only [sizeTs, List.length_cons]
    rcases List.mem_cons.mp h with rfl | h
    · have := sizeTs_ge ts hw.2; omega
    · have := size_some ts hw.2 h
      have := sizeT_pos t hw.1
      omega
end VL
namespace VL
open PySem PySem.Spec PyProof.Rows L2
def rvInSign : R2v := fun x y S Q => ∃ (c : Nat) (z : Str), x = .str ⟨#[c]⟩ ∧ y = .str z ∧ Q (.bl (decide (c ∈ z.cps.toList))) S
def rvSlS : D → Option Int → Option Int → Own → KE → Prop := fun x lo hi S Q => ∃ z, x = .str z ∧ z.length ≤ sizeLine ∧ Q (.str (cutS z lo hi)) S
def rvIntS : RAv := fun ds S Q => ∃ a n, ds = [.str a] ∧ PySem.intText? a = some n ∧ a.length ≤ 640 ∧ Q (.int n) S
def rvSplit : D → RAv := fun x ds S Q => ∃ a b, x = .str a ∧ ds = [.str b] ∧ (b.length == 0) = false ∧ a.length + 2 ≤ sizeLine ∧ Q (.lst ((Txt.split a b).map D.str)) S
def signsD (z : Str) : List D := z.cps.toList.map fun c => D.str ⟨#[c]⟩
def tvSigns (T : TEv) : TIv := fun ρ S Q => T ρ S fun d S1 => ∃ z, d = .str z ∧ Q (signsD z) S1
theorem rps_of_strs {K : PySem.W.Frag} {H : Hp} {S : Own} {Z : Addr → Prop} : ∀ {ns : List Str}, Rps K H S Z (ns.map D.str) (ns.map V.str)
  | [] => rps_nil
  | n :: ns => rps_cons (by simp only [Rp]) rps_of_strs
section
variable {X : Cx}
theorem o_inSign : OpR X (compareOp .In) (up2 X.K rvInSign) := opR_imp op_in_sign fun x y H Q ⟨Z, S, dx, dy, Qv, m, rx, ry, h, b⟩ => by
  obtain ⟨c, z, rfl, rfl, h⟩ := h
  simp only [Rp] at rx ry
  exact ⟨c, z, rx, ry, b _ _ H S .refl m (by simp only [Rp]) h⟩
theorem sl_vS : SlR X (upSl X.K rvSlS) := slR_imp sl_str fun x lo hi H Q ⟨Z, S, dx, Qv, m, rx, h, b⟩ => by
  obtain ⟨z, rfl, hz, h⟩ := h
  simp only [Rp] at rx
  exact ⟨z, rx, hz, b _ _ H S .refl m (by simp only [Rp]) h⟩
theorem v_slS {e : Expr} {lo hi : Option Expr} {T : TEv} {Tl Th : TOv} {pos p2 : Pos} (he : PE X e (upE X.K T)) (hl : PO X lo (upO X.K Tl)) (hu : PO X hi (upO X.K Th)) : PE X (.Subscript e (.Slice lo hi none p2) pos) (upE X.K (tvSl rvSlS T Tl Th)) :=
  pe_imp (pe_slice sl_vS he hl hu) fun σ H Q ⟨Z, ρ, S, Qv, m, r, h, b⟩ =>
    ⟨Z, ρ, S, _, m, r, h, fun d v H1 S1 e1 m1 r1 h1 => ⟨Z, ρ, S1, _, m1, r.ext e1, h1, fun o2 H2 S2 e2 m2 h2 => ⟨Z, ρ, S2, _, m2, (r.ext e1).ext e2, h2, fun o3 H3 S3 e3 m3 h3 =>
      ⟨Z, S3, d, Qv, m3, (r1.ext e2).ext e3, h3, fun d4 v4 H4 S4 e4 => b d4 v4 H4 S4 (((e1.trans e2).trans e3).trans e4)⟩⟩⟩⟩
theorem c_intS : CallR X (.type "int") (upC X.K rvIntS) := callR_imp call_int_str fun xs H Q ⟨Z, S, ds, Qv, m, r, h, b⟩ => by
  obtain ⟨a, n, rfl, h1, h2, h⟩ := h
  obtain ⟨v, rfl, rv⟩ := one_rps r
  simp only [Rp] at rv
  subst rv
  exact ⟨a, n, rfl, h1, h2, b _ _ H S .refl m (by simp only [Rp]) h⟩
theorem m_split : MtR X "str.split" (upM X.K rvSplit) := mtR_imp mt_split fun x xs H Q ⟨Z, S, dx, ds, Qv, m, rx, rs, h, b⟩ => by
  obtain ⟨a, c, rfl, rfl, h1, h2, h⟩ := h
  obtain ⟨v, rfl, rv⟩ := one_rps rs
  simp only [Rp] at rx rv
  subst rv
  exact ⟨a, c, rx, rfl, h1, h2, fun p hp => b _ _ _ _ (ext_new m hp) (sim_new m hp) (new_lst m rps_of_strs hp) h⟩
theorem itok_signs {K : PySem.W.Frag} {H : Hp} {S : Own} {Z : Addr → Prop} {z : Str} : ItOk K Z (signsD z) (Its z) H S := by
  have hl : (signsD z).length = z.cps.size := by unfold signsD; rw [List.length_map, Array.length_toList]
  exact
    { go := fun i H1 S1 Z1 e m hi => by rw [hl] at hi; exact hi
      yld := fun i H1 S1 Z1 x H2 d e m hd hy => by
        obtain ⟨rfl, c, hc, rfl⟩ := hy
        unfold signsD at hd
        rw [List.getElem?_map, Array.getElem?_toList, hc] at hd
        cases hd
        exact ⟨.refl, m, by simp only [Rp]⟩
      stop := fun i H1 S1 Z1 e m hi => by rw [hl] at hi; exact Nat.le_of_eq hi.symm }
theorem i_signs {tg l : Expr} {T : TEv} (hl : PE X l (upE X.K T)) : PI X tg l (upI X.K (tvSigns T)) :=
  pi_imp (pi_str hl) fun σ H R ⟨Z, ρ, S, Qv, m, r, h, bk⟩ => ⟨Z, ρ, S, _, m, r, h, fun d v H1 S1 e1 m1 r1 ⟨z, ez, h1⟩ => by
    subst ez
    simp only [Rp] at r1
    exact ⟨z, r1, bk _ _ H1 S1 e1 m1 itok_signs h1⟩⟩
/-- a text of the module -/
theorem v_gstr {x : Str} {z : Str} {pos : Pos} (hm : ∃ t, X.mg x = some (.str z t)) (hg : Gl X x := by rfl) (hd : (x == ("__debug__" : Str)) = false := by decide) : PE X (.Name x pos) (upE X.K (tvC (.str z))) := by
  obtain ⟨t, hm⟩ := hm
  exact vc (pe_glob (v := .str z) hg hm ⟨t, rfl⟩ hd) fun _ _ _ => by simp only [Rp]
end
end VL
namespace VL
open PySem PySem.Spec PyProof.Rows L2
local macro_rules | `(tactic| walk_at "vs") => `(tactic| simp only [q_var0, q_varS, q_sat0, q_satS, q_C, q_op, q_un, q_test, q_kB, q_not, q_and, q_or, q_ifE, q_andV, q_orV, q_notV, q_chain, q_nil, q_cons, q_tup, q_lst, q_lstO, q_CB, q_BM, q_call, q_seq, q_next, q_set, q_drop, q_ret, q_if, q_setIx, q_stD, q_nx, q_rt, q_endr, q_endn, q_I, q_I0, q_addI, q_addT, q_addL, q_neg, q_ixT atI_0, q_ixT atI_1, q_ixT atI_2, q_lenT, q_lenL, q_lenS, q_int1, q_intB, q_I1, q_II, q_tupT, q_tupL, q_rgL, q_lc, q_lcO, q_r1, q_r2, q_kR1, q_kR2, q_sq, q_kSqT, q_kSqL, q_kSqQ, q_isi, q_rev, q_revT, q_revL, q_wip0, q_wipS, q_unst0, q_unstS, q_yes, q_eqI, q_bls, q_sum, q_rcT, q_rcL, if_true, q_for, q_enum, q_kEnT, q_kEnL, q_repO, q_rep, q_let, q_bind, q_slv, q_noPart, q_part, q_kP, q_slT, q_slL, q_listT, q_listL, q_eqB, q_rgL3, q_lcW, q_forW, q_ow, q_owE,
  List.map_cons, List.map_nil, List.cons_append, List.nil_append, List.length_cons, List.length_nil, List.replicate])
theorem cal_mut {P : Program} {w : World} {K : PySem.W.Frag} {mg : Str → Option Value} {base : Heap} {x y : Str} {psx psy : List Str} {f g : Addr} {fd gd : FuncData} {Gx Gy : Nat → FS} {L : Nat} (h0x : ∀ ds S Q, ¬ Gx 0 ds S Q) (h0y : ∀ ds S Q, ¬ Gy 0 ds S Q)
    (hmx : mg x = some (.ref f)) (hkx : PySem.W.keepIn K (.ref f) = true) (hbx : Binds K fd psx []) (hmy : mg y = some (.ref g)) (hky : PySem.W.keepIn K (.ref g) = true) (hby : Binds K gd psy [])
    (sx : ∀ n, Cal P w K mg base (L + n) y psy (Gy n) → FnOk P w K mg base CX0 (L + n + 1) f fd psx (spV K (Gx (n + 1))))
    (sy : ∀ n, Cal P w K mg base (L + n) x psx (Gx n) → FnOk P w K mg base CX0 (L + n + 1) g gd psy (spV K (Gy (n + 1)))) : ∀ n, Cal P w K mg base (L + n) x psx (Gx n) ∧ Cal P w K mg base (L + n) y psy (Gy n)
  | 0 => ⟨⟨f, fd, ⟨fun vs H Q E ⟨Z, S, ds, Qv, m, r, h, b⟩ => (h0x _ _ _ h).elim, fun A outer s H args us vs Q E hr he hbi hv ⟨Z, S, ds, Qv, m, r, h, b⟩ => (h0x _ _ _ h).elim⟩, hmx, hkx, hbx⟩,
      ⟨g, gd, ⟨fun vs H Q E ⟨Z, S, ds, Qv, m, r, h, b⟩ => (h0y _ _ _ h).elim, fun A outer s H args us vs Q E hr he hbi hv ⟨Z, S, ds, Qv, m, r, h, b⟩ => (h0y _ _ _ h).elim⟩, hmy, hky, hby⟩⟩
  | n + 1 => ⟨⟨f, fd, sx n (cal_mut h0x h0y hmx hkx hbx hmy hky hby sx sy n).2, hmx, hkx, hbx⟩, ⟨g, gd, sy n (cal_mut h0x h0y hmx hkx hbx hmy hky hby sx sy n).1, hmy, hky, hby⟩⟩
def F_p_must_be : FS := fun ds S Q => ds = [.bl true] ∧ Q .non S
def T_p_must_be : TSv := (tvIf (tvNot (tvTest (tvVar 0)))
  tvNever
  tvNext)
theorem t_p_must_be : ∀ ds S Qv, F_p_must_be ds S Qv → T_p_must_be (endsV Qv) (stD 1 ds) S := by
  rintro ds S Qv ⟨rfl, q⟩
  unfold T_p_must_be
  walk_at "vs"
  exact fin_of q
def F_p_numeral : FS := fun ds S Q => ∃ n : Nat, ds = [.str (itoS (n : Nat))] ∧ 1 ≤ n ∧ n ≤ 99 ∧ Q (.int (n : Nat)) S
def T_p_numeral : TSv := (tvSeq (tvDrop (tvCall F_p_must_be (tvCons (tvAndV (tvChain rvLe rvLe (tvC (.int 1)) (tvCB rvLen (tvCons (tvVar 0) tvNil)) (tvC (.int 2))) (tvCB (rvBls fun bs => bs.all id) (tvCons (tvLc (tvSigns (tvVar 0)) (.name 1) ttYes (tvOp rvInSign (tvVar 1) (tvC (.str "0123456789"))) [1]) tvNil))) tvNil)))
  (tvSeq (tvDrop (tvCall F_p_must_be (tvCons (tvOp rvNe (tvOp rvIx (tvVar 0) (tvC (.int 0))) (tvC (.str "0"))) tvNil)))
  (tvRet (tvCB rvIntS (tvCons (tvVar 0) tvNil)))))
theorem tl_itoS (n : Nat) : TL.tl (itoS (n : Nat)) = TL.numL n := TL.tl_num n
theorem numL_two {n : Nat} (h1 : 1 ≤ n) (h2 : n ≤ 99) : 1 ≤ (TL.numL n).length ∧ (TL.numL n).length ≤ 2 ∧ (TL.numL n)[0]? ≠ some 48 := by
  have h : ((List.range 100).all fun n => n == 0 || (decide (1 ≤ (TL.numL n).length ∧ (TL.numL n).length ≤ 2) && (TL.numL n)[0]? != some 48)) = true := by decide +kernel
  have := List.all_eq_true.mp h n (List.mem_range.mpr (by omega))
  simp only [Bool.or_eq_true, beq_iff_eq, Bool.and_eq_true, decide_eq_true_eq, bne_iff_ne, ne_eq] at this
  rcases this with h | h
  · omega
  · exact ⟨h.1.1, h.1.2, h.2⟩
theorem figs_tl : ("0123456789" : Str).cps.toList = [48, 49, 50, 51, 52, 53, 54, 55, 56, 57] := by decide +kernel
theorem fig_mem {c : Nat} : c ∈ ("0123456789" : Str).cps.toList ↔ 48 ≤ c ∧ c ≤ 57 := by
  rw [figs_tl]
  simp only [List.mem_cons, List.mem_nil_iff, or_false]
  omega
theorem q_lenZ {S : Own} {Q : KE} {z : Str} (h : z.length ≤ 16777216) : rvLen [.str z] S Q = Q (.int (z.length : Nat)) S := by
  have h : z.length ≤ sizeLine := sz h
  simp only [rvLen, lenD, vw, if_pos h]
theorem q_ixZ {S : Own} {Q : KE} {z : Str} {i : Int} {c : Nat} (h : z.length ≤ 16777216) (hc : atI z.cps.toList i = some c) : rvIx (.str z) (.int i) S Q = Q (.str ⟨#[c]⟩) S := by
  have h : z.length ≤ sizeLine := sz h
  simp only [rvIx, vw, hc, h, true_and]
theorem q_eqZ {S : Own} {Q : KE} {g : Bool → Bool} {a b : Str} : rvEqv g (.str a) (.str b) S Q = Q (.bl (g (decide (a = b)))) S := by
  rw [q_eqv (p := .str a) (q := .str b) rfl rfl]
  simp only [PyData.depth, PyData.eqv, Nat.zero_le, true_and]
  congr 3
theorem q_neSign {S : Own} {Q : KE} {c : Nat} (h : c ≠ 48) : rvNe (.str ⟨#[c]⟩) (.str ("0" : Str)) S Q = Q (.bl true) S := by
  unfold rvNe
  rw [q_eqZ, decide_eq_false]
  · rfl
  · intro e
    have e2 := congrArg (fun z : Str => z.cps.toList) e
    have e3 : ("0" : Str).cps.toList = [48] := by decide
    rw [e3] at e2
    simp at e2
    exact h e2
theorem t_p_numeral : ∀ ds S Qv, F_p_numeral ds S Qv → T_p_numeral (endsV Qv) (stD 2 ds) S := by
  rintro ds S Qv ⟨n, rfl, h1, h2, q⟩
  obtain ⟨a1, a2, a3⟩ := numL_two h1 h2
  have htl : (itoS (n : Nat)).cps.toList = TL.numL n := tl_itoS n
  have hlen : (itoS (n : Nat)).length = (TL.numL n).length := by rw [← htl]; simp [Str.length]
  unfold T_p_numeral
  refine seq_cut fun K hK => ?_
  walk_at "vs"
  rw [q_lenZ (by omega), hlen]
  simp only [q_I0, q_kB]
  rw [decide_eq_true (show (1 : Int) ≤ ((TL.numL n).length : Nat) by omega)]
  simp only [if_true, q_I0, q_kB]
  rw [decide_eq_true (show ((TL.numL n).length : Int) ≤ 2 by omega)]
  simp only [if_true]
  refine ⟨_, rfl, sz (by unfold signsD; rw [List.length_map, htl]; omega), ?_⟩
  refine comp_map (fun _ => .bl true) _ _ (fun d hd => ?_) ?_
  · unfold signsD at hd
    rw [htl] at hd
    obtain ⟨c, hc, rfl⟩ := List.mem_map.mp hd
    have hb := TL.numL_digits n c hc
    refine ⟨_, bind_name, fun Q' q' => ?_⟩
    simp only [sat]
    walk_at "vs"
    refine ⟨c, _, rfl, rfl, ?_⟩
    rw [decide_eq_true (fig_mem.mpr hb)]
    exact q'
  · rw [q_blsE (blsD_all fun d hd => by obtain ⟨_, _, rfl⟩ := List.mem_map.mp hd; rfl), all_true]
    refine ⟨rfl, hK _ _ ?_⟩
    clear hK K
    refine seq_cut fun K hK => ?_
    walk_at "vs"
    have h0 : ∃ c, (TL.numL n)[0]? = some c ∧ c ≠ 48 := by
      cases e : (TL.numL n)[0]? with
      | none => rw [List.getElem?_eq_none_iff] at e; omega
      | some c => exact ⟨c, rfl, fun h => a3 (by rw [e, h])⟩
    obtain ⟨c, hc, hne⟩ := h0
    rw [q_ixZ (z := itoS (n : Nat)) (c := c) (by omega) (by rw [htl]; exact atI_nat hc)]
    rw [q_neSign hne]
    refine ⟨rfl, hK _ _ ?_⟩
    clear hK K
    walk_at "vs"
    exact ⟨_, _, rfl, PySem.W.KIN.num_reads (by omega) (by omega), by omega, fin_of q⟩
def SepOk (sep : Str) : Prop := sep = (" " : Str) ∨ sep = ("." : Str)
theorem sep_facts {sep : Str} (h : SepOk sep) : ∃ s, TL.tl sep = [s] ∧ (s < 48 ∨ 57 < s) ∧ sep.cps.all (· < 256) = true ∧ sep.length = 1 := by
  rcases h with rfl | rfl
  · exact ⟨32, by decide +kernel, by omega, by decide +kernel, by decide +kernel⟩
  · exact ⟨46, by decide +kernel, by omega, by decide +kernel, by decide +kernel⟩
def F_p_row_read : FS := fun ds S Q => ∃ (ns : List Int) (sep : Str), ds = [.str (Txt.join sep (ns.map itoS)), .str sep] ∧ SepOk sep ∧ Row ns ∧ 1 ≤ ns.length ∧ ns.length ≤ 40 ∧ Q (tupI ns) S
def T_p_row_read : TSv := (tvSeq (tvSet 2 (tvCB rvTuple (tvCons (tvLc (tvSq (tvBMr rcS rvSplit (tvVar 0) (tvCons (tvVar 1) tvNil))) (.name 3) ttYes (tvCall F_p_numeral (tvCons (tvVar 3) tvNil)) [3]) tvNil)))
  (tvSeq (tvDrop (tvCall F_p_must_be (tvCons (tvCall F_p_is_row (tvCons (tvVar 2) tvNil)) tvNil)))
  (tvRet (tvVar 2))))
theorem t_p_row_read : ∀ ds S Qv, F_p_row_read ds S Qv → T_p_row_read (endsV Qv) (stD 4 ds) S := by
  rintro ds S Qv ⟨ns, sep, rfl, hsep, hr, h1, h40, q⟩
  obtain ⟨s, e1, e2, e3, e4⟩ := sep_facts hsep
  have hb : ∀ x ∈ ns, 1 ≤ x ∧ x ≤ 40 := fun x hx => by have := hr.mem.mp hx; omega
  have hsum := row_sum (fun x hx => ⟨by have := hb x hx; omega, by have := hb x hx; omega⟩) (show ns.length ≤ 1000 by omega)
  have hsp : Txt.split (Txt.join sep (ns.map itoS)) sep = ns.map itoS := TL.split_join e1 e3 (fun e => by have := congrArg List.length e; simp only [List.length_map, List.length_nil] at this; omega) fun p hp => by
    obtain ⟨x, hx, rfl⟩ := List.mem_map.mp hp
    have := hb x hx
    obtain ⟨n, rfl⟩ := Int.eq_ofNat_of_zero_le (show 0 ≤ x by omega)
    rw [tl_itoS]
    exact TL.numL_free e2
  have hlen : (Txt.join sep (ns.map itoS)).length ≤ 5000 := by
    rw [join_len, e4, List.length_map]; omega
  unfold T_p_row_read
  refine seq_cut fun K hK => ?_
  walk_at "vs"
  rw [rcS_str]
  refine ⟨trivial, _, _, rfl, rfl, by rw [e4]; rfl, sz (by omega), ?_⟩
  rw [hsp, List.map_map]
  rw [q_kSqL]
  refine ⟨sz (by rw [List.length_map]; omega), ?_⟩
  refine comp_each (enc := D.str ∘ itoS) (out := D.int) _ _ (fun x hx => ⟨_, bind_name, fun Q' q' => ?_⟩) ?_
  · have := hb x hx
    obtain ⟨n, rfl⟩ := Int.eq_ofNat_of_zero_le (show 0 ≤ x by omega)
    simp only [sat]
    walk_at "vs"
    exact ⟨n, rfl, by omega, by omega, q'⟩
  · obtain ⟨w1, w2⟩ := row_isD hr h1 h40
    refine hK _ _ ?_
    clear hK K
    refine seq_cut fun K hK => ?_
    walk_at "vs"
    refine ⟨40, 1, _, rfl, w2, by omega, by omega, ?_⟩
    rw [show isRowD (.tup (ns.map D.int)) = true from w1]
    refine ⟨rfl, hK _ _ ?_⟩
    walk_at "vs"
    exact fin_of q
def F_p_read_row : FS := fun ds S Q => ∃ ns : List Int, ds = [.str (rowText ns)] ∧ Row ns ∧ 1 ≤ ns.length ∧ ns.length ≤ 40 ∧ Q (tupI ns) S
def T_p_read_row : TSv := (tvSeq (tvDrop (tvCall F_p_must_be (tvCons (tvIsi isStr (tvVar 0)) tvNil)))
  (tvRet (tvCall F_p_row_read (tvCons (tvVar 0) (tvCons (tvC (.str " ")) tvNil)))))
theorem t_p_read_row : ∀ ds S Qv, F_p_read_row ds S Qv → T_p_read_row (endsV Qv) (stD 1 ds) S := by
  rintro ds S Qv ⟨ns, rfl, hr, h1, h40, q⟩
  unfold T_p_read_row
  refine seq_cut fun K hK => ?_
  walk_at "vs"
  refine ⟨_, rfl, rfl, hK _ _ ?_⟩
  walk_at "vs"
  exact ⟨ns, _, rfl, .inl rfl, hr, h1, h40, fin_of q⟩
/-- the end of a word of figures and dots -/
def wordSign (c : Nat) : Prop := (48 ≤ c ∧ c ≤ 57) ∨ c = 46
def F_p_word_end : FS := fun ds S Q => ∃ (z : Str) (a m : Nat), ds = [.str z, .int a] ∧ z.length ≤ 1000000 ∧ a + m ≤ z.cps.toList.length ∧ (∀ k, a ≤ k → k < a + m → ∃ c, z.cps.toList[k]? = some c ∧ wordSign c) ∧ (∀ c, z.cps.toList[a + m]? = some c → ¬ wordSign c) ∧ Q (.int ((a + m : Nat))) S
def T_p_word_end : TSv := (tvSeq (tvWhile (tvAnd (tvTest (tvOp rvLt (tvVar 1) (tvCB rvLen (tvCons (tvVar 0) tvNil)))) (tvOr (tvTest (tvOp rvInSign (tvOp rvIx (tvVar 0) (tvVar 1)) (tvC (.str "0123456789")))) (tvTest (tvOp rvEq (tvOp rvIx (tvVar 0) (tvVar 1)) (tvC (.str "."))))))
  (tvSet 1 (tvOp rvAdd (tvVar 1) (tvC (.int 1)))))
  (tvRet (tvVar 1)))
theorem word_test {z : Str} {a : Nat} {ρ : VS} {S : Own} {Q : Bool → Own → Prop} (hz : z.length ≤ 1000000) (h0 : nth ρ 0 = some (.str z)) (h1 : nth ρ 1 = some (.int (a : Nat))) (qt : ∀ c, z.cps.toList[a]? = some c → wordSign c → Q true S) (qf : (∀ c, z.cps.toList[a]? = some c → ¬ wordSign c) → Q false S) :
    (tvAnd (tvTest (tvOp rvLt (tvVar 1) (tvCB rvLen (tvCons (tvVar 0) tvNil)))) (tvOr (tvTest (tvOp rvInSign (tvOp rvIx (tvVar 0) (tvVar 1)) (tvC (.str "0123456789")))) (tvTest (tvOp rvEq (tvOp rvIx (tvVar 0) (tvVar 1)) (tvC (.str ".")))))) ρ S Q := by
  have hl : z.length = z.cps.toList.length := by simp [Str.length]
  simp only [q_and, q_or, q_test, q_op, q_CB, q_cons, q_nil, q_C]
  unfold tvVar
  rw [h0, h1]
  simp only []
  rw [q_lenZ (by omega)]
  simp only [rvLt, q_I0, q_kB]
  by_cases c : a < z.cps.toList.length
  · rw [decide_eq_true (show ((a : Nat) : Int) < (z.length : Nat) by omega)]
    simp only [if_true]
    rw [q_ixZ (by omega) (atI_nat (List.getElem?_eq_getElem c))]
    have hg := List.getElem?_eq_getElem c
    generalize z.cps.toList[a] = g at hg
    refine ⟨g, _, rfl, rfl, ?_⟩
    simp only [q_kB]
    by_cases hf : 48 ≤ g ∧ g ≤ 57
    · rw [decide_eq_true (fig_mem.mpr hf)]
      exact qt g hg (.inl hf)
    · rw [decide_eq_false (fun h => hf (fig_mem.mp h))]
      simp only [Bool.false_eq_true, if_false]
      rw [q_ixZ (by omega) (atI_nat hg)]
      simp only [rvEq, q_eqZ, q_kB]
      by_cases hd : g = 46
      · rw [decide_eq_true (show (⟨#[g]⟩ : Str) = ("." : Str) by rw [hd]; decide)]
        exact qt g hg (.inr hd)
      · rw [decide_eq_false (show ¬ (⟨#[g]⟩ : Str) = ("." : Str) from fun e => by
          have e2 := congrArg (fun z : Str => z.cps.toList) e
          have e3 : ("." : Str).cps.toList = [46] := by decide
          rw [e3] at e2
          simp at e2
          exact hd e2)]
        exact qf fun c hc => by
          rw [hg] at hc; cases hc
          exact fun h => h.elim hf hd
  · rw [decide_eq_false (show ¬ ((a : Nat) : Int) < (z.length : Nat) by omega)]
    simp only [Bool.false_eq_true, if_false]
    exact qf fun c' hc => by rw [List.getElem?_eq_none (by omega)] at hc; cases hc
theorem t_p_word_end : ∀ ds S Qv, F_p_word_end ds S Qv → T_p_word_end (endsV Qv) (stD 2 ds) S := by
  rintro ds S Qv ⟨z, a, m, rfl, hz, hm, h1, h2, q⟩
  unfold T_p_word_end
  refine seq_cut fun K hK => ?_
  rw [q_while]
  refine ⟨m + 1, ?_⟩
  have key : ∀ k j, k + j = m → whileV (tvAnd (tvTest (tvOp rvLt (tvVar 1) (tvCB rvLen (tvCons (tvVar 0) tvNil)))) (tvOr (tvTest (tvOp rvInSign (tvOp rvIx (tvVar 0) (tvVar 1)) (tvC (.str "0123456789")))) (tvTest (tvOp rvEq (tvOp rvIx (tvVar 0) (tvVar 1)) (tvC (.str ".")))))) (tvSet 1 (tvOp rvAdd (tvVar 1) (tvC (.int 1)))) { nx := K, rt := fin Qv, bk := (endsV Qv).bk, ct := (endsV Qv).ct } (k + 1) [some (.str z), some (.int ((a + j : Nat)))] S := by
    intro k
    induction k with
    | zero =>
      intro j hj
      have hj : j = m := by omega
      subst hj
      rw [q_whileS]
      refine word_test hz rfl rfl (fun c hc hw => absurd hw (h2 c hc)) fun _ => ?_
      simp only [Bool.false_eq_true, if_false]
      refine hK _ _ ?_
      walk_at "vs"
      exact fin_of q
    | succ k ih =>
      intro j hj
      rw [q_whileS]
      obtain ⟨c, hc, hw⟩ := h1 (a + j) (by omega) (by omega)
      refine word_test hz rfl rfl (fun c' _ _ => ?_) fun h => absurd hw (h c hc)
      simp only [if_true]
      walk_at "vs"
      have := ih (j + 1) (by omega)
      rw [show ((a + j : Nat) : Int) + 1 = ((a + (j + 1) : Nat) : Int) by omega]
      exact this
  exact key m 0 (by omega)
end VL
namespace VL
open PySem PySem.Spec PyProof.Rows L2
local macro_rules | `(tactic| walk_at "vs") => `(tactic| simp only [q_var0, q_varS, q_sat0, q_satS, q_C, q_op, q_un, q_test, q_kB, q_not, q_and, q_or, q_ifE, q_andV, q_orV, q_notV, q_chain, q_nil, q_cons, q_tup, q_lst, q_lstO, q_CB, q_BM, q_call, q_seq, q_next, q_set, q_drop, q_ret, q_if, q_setIx, q_stD, q_nx, q_rt, q_endr, q_endn, q_I, q_I0, q_addI, q_addT, q_addL, q_neg, q_ixT atI_0, q_ixT atI_1, q_ixT atI_2, q_lenT, q_lenL, q_lenS, q_int1, q_intB, q_I1, q_II, q_tupT, q_tupL, q_rgL, q_lc, q_lcO, q_r1, q_r2, q_kR1, q_kR2, q_sq, q_kSqT, q_kSqL, q_kSqQ, q_isi, q_rev, q_revT, q_revL, q_wip0, q_wipS, q_unst0, q_unstS, q_yes, q_eqI, q_bls, q_sum, q_rcT, q_rcL, if_true, q_for, q_enum, q_kEnT, q_kEnL, q_repO, q_rep, q_let, q_bind, q_slv, q_noPart, q_part, q_kP, q_slT, q_slL, q_listT, q_listL, q_eqB, q_rgL3, q_lcW, q_forW, q_ow, q_owE,
  List.map_cons, List.map_nil, List.cons_append, List.nil_append, List.length_cons, List.length_nil, List.replicate])
theorem cutS_tl (z : Str) {a b : Nat} (h : a ≤ b) : (cutS z (some (a : Nat)) (some (b : Nat))).cps.toList = (z.cps.toList.drop a).take (b - a) := by
  have hl : z.length = z.cps.toList.length := by simp [Str.length]
  have e : ∀ d v : Nat, HT.sIx z.length d (some (v : Int)) = min v z.length := fun d v => by
    unfold HT.sIx
    simp only []
    rw [if_neg (by omega)]
    rfl
  show ((z.cps.toList.drop (HT.sIx z.length 0 (some (a : Int)))).take (HT.sIx z.length z.length (some (b : Int)) - HT.sIx z.length 0 (some (a : Int)))).toArray.toList = _
  rw [e, e, List.toList_toArray]
  by_cases ha : a ≤ z.length
  · rw [Nat.min_eq_left ha]
    by_cases hb : b ≤ z.length
    · rw [Nat.min_eq_left hb]
    · rw [Nat.min_eq_right (by omega), List.take_of_length_le (by rw [List.length_drop]; omega), List.take_of_length_le (by rw [List.length_drop]; omega)]
  · rw [Nat.min_eq_right (by omega), Nat.min_eq_right (by omega), Nat.sub_self, List.take_zero, List.drop_of_length_le (by omega), List.take_nil]
theorem q_slZ {S : Own} {Q : KE} {z : Str} {lo hi : Option Int} (h : z.length ≤ 1000000) : rvSlS (.str z) lo hi S Q ↔ Q (.str (cutS z lo hi)) S := by
  unfold rvSlS
  constructor
  · rintro ⟨y, e, _, q⟩; cases e; exact q
  · exact fun q => ⟨z, rfl, sz (by omega), q⟩
theorem cut_is {z y : Str} {a b : Nat} (h : a ≤ b) (e : (z.cps.toList.drop a).take (b - a) = y.cps.toList) : cutS z (some (a : Nat)) (some (b : Nat)) = y := TL.ext_tl (by rw [show TL.tl (cutS z (some (a : Nat)) (some (b : Nat))) = _ from cutS_tl z h]; exact e)
theorem cut_not {z y : Str} {a b : Nat} (h : a ≤ b) (e : (z.cps.toList.drop a).take (b - a) ≠ y.cps.toList) : cutS z (some (a : Nat)) (some (b : Nat)) ≠ y := fun h2 => e (by rw [← h2]; exact (cutS_tl z h).symm)
def linkS (up : Bool) : Str := if up = true then (" + " : String) else (" - " : String)
theorem tl_one : TL.tl (textT .one) = [49] := by decide +kernel
theorem tl_run (up : Bool) (ps : List Tr) : TL.tl (textT (.run up ps)) = 40 :: (TL.joinL (TL.tl (linkS up)) (ps.map fun p => TL.tl (textT p)) ++ [41]) := by
  have e1 : TL.tl ("(" : Str) = [40] := by decide +kernel
  have e2 : TL.tl (")" : Str) = [41] := by decide +kernel
  show TL.tl (("(" : Str) ++ Txt.join (linkS up) (textTs ps) ++ (")" : Str)) = _
  rw [TL.tl_append, TL.tl_append, e1, e2, TL.join_eq, TL.tl_join, textTs_map, List.map_map]
  rfl
theorem tl_shp (sh : List Int) (ps : List Tr) : TL.tl (textT (.shp sh ps)) = TL.tl (rowDots sh) ++ 91 :: (TL.joinL [32] (ps.map fun p => TL.tl (textT p)) ++ [93]) := by
  have e1 : TL.tl ("[" : Str) = [91] := by decide +kernel
  have e2 : TL.tl ("]" : Str) = [93] := by decide +kernel
  have e3 : TL.tl (" " : Str) = [32] := by decide +kernel
  show TL.tl (rowDots sh ++ ("[" : Str) ++ Txt.join (" " : Str) (textTs ps) ++ ("]" : Str)) = _
  rw [TL.tl_append, TL.tl_append, TL.tl_append, e1, e2, TL.join_eq, TL.tl_join, textTs_map, List.map_map, e3]
  simp only [List.append_assoc, List.cons_append, List.nil_append]
  rfl
def LinksOk (links : List Str) (sep : Str) : Prop := (links = [linkS true, linkS false] ∧ ∃ up, sep = linkS up) ∨ (links = [(" " : Str)] ∧ sep = (" " : Str))
theorem sep_head {links : List Str} {sep : Str} (h : LinksOk links sep) : ∃ s, TL.tl sep = 32 :: s ∧ sep.length ≤ 3 := by
  rcases h with ⟨_, up, rfl⟩ | ⟨_, rfl⟩
  · cases up
    · exact ⟨[45, 32], by decide +kernel, by decide +kernel⟩
    · exact ⟨[43, 32], by decide +kernel, by decide +kernel⟩
  · exact ⟨[], by decide +kernel, by decide +kernel⟩
theorem joinL_cons (S p : List Nat) {ps : List (List Nat)} (h : ps ≠ []) : TL.joinL S (p :: ps) = p ++ (S ++ TL.joinL S ps) := by
  cases ps with
  | nil => exact absurd rfl h
  | cons q r => rfl
def F_p_read_part : Nat → FS
  | 0 => fun _ _ _ => False
  | n + 1 => fun ds S Q => ∃ (z : Str) (a deep : Nat) (t : Tr) (pre rest : List Nat), ds = [.str z, .int a, .int deep] ∧ z.length ≤ 1000000 ∧ z.cps.toList = pre ++ (TL.tl (textT t) ++ rest) ∧ a = pre.length ∧ (∀ c, rest[0]? = some c → ¬ wordSign c) ∧ WfT t ∧ 2 * sizeT t ≤ n + 1 ∧ deep + sizeT t ≤ 40 ∧
    Q (.tup [treeD t, .int ((a + (TL.tl (textT t)).length : Nat))]) S
def F_p_read_parts : Nat → FS
  | 0 => fun _ _ _ => False
  | n + 1 => fun ds S Q => ∃ (z : Str) (a deep : Nat) (ps : List Tr) (links : List Str) (sep : Str) (pre rest : List Nat), ds = [.str z, .int a, .lst (links.map D.str), .int deep] ∧ z.length ≤ 1000000 ∧ LinksOk links sep ∧ 2 ≤ ps.length ∧ ps.length ≤ 100 ∧ WfTs ps ∧ (∀ p ∈ ps, 2 * sizeT p + 1 ≤ n + 1 ∧ deep + sizeT p ≤ 40) ∧
    z.cps.toList = pre ++ (TL.joinL (TL.tl sep) (ps.map fun p => TL.tl (textT p)) ++ rest) ∧ a = pre.length ∧ (∃ c r, rest = c :: r ∧ (c = 41 ∨ c = 93)) ∧
    Q (.tup [.tup (ps.map treeD), .str sep, .int ((a + (TL.joinL (TL.tl sep) (ps.map fun p => TL.tl (textT p))).length : Nat))]) S
theorem joinL_flat (S : List Nat) : ∀ (p : List Nat) (qs : List (List Nat)), TL.joinL S (p :: qs) = p ++ qs.flatMap fun q => S ++ q
  | p, [] => by show p = p ++ []; rw [List.append_nil]
  | p, q :: qs => by
    rw [joinL_cons S p (by simp), joinL_flat S q qs, List.flatMap_cons, List.append_assoc]
def T_p_read_parts (Fr : FS) : TSv := (tvSeq (tvBind (.tup [(.name 4), (.name 1)]) (tvCall Fr (tvCons (tvVar 0) (tvCons (tvVar 1) (tvCons (tvVar 3) tvNil)))))
  (tvSeq (tvSet 5 (tvLstO (tvCons (tvVar 4) tvNil)))
  (tvSeq (tvSet 6 (tvBMr rcS rvJoin (tvC (.str "")) (tvCons (tvLc (tvSq (tvVar 2)) (.name 7) (tvTest (tvOp rvEq (tvSl rvSlS (tvVar 0) (tvPart (tvVar 1)) (tvPart (tvOp rvAdd (tvVar 1) (tvCB rvLen (tvCons (tvVar 7) tvNil))))) (tvVar 7))) (tvVar 7) [7]) tvNil)))
  (tvSeq (tvWhile (tvAnd (tvTest (tvOp rvNe (tvVar 6) (tvC (.str "")))) (tvTest (tvOp rvEq (tvSl rvSlS (tvVar 0) (tvPart (tvVar 1)) (tvPart (tvOp rvAdd (tvVar 1) (tvCB rvLen (tvCons (tvVar 6) tvNil))))) (tvVar 6))))
  (tvSeq (tvBind (.tup [(.name 4), (.name 1)]) (tvCall Fr (tvCons (tvVar 0) (tvCons (tvOp rvAdd (tvVar 1) (tvCB rvLen (tvCons (tvVar 6) tvNil))) (tvCons (tvVar 3) tvNil)))))
  (tvDrop (tvBMr rcL rvApp (tvVar 5) (tvCons (tvVar 4) tvNil)))))
  (tvRet (tvTup (tvCons (tvCB rvTuple (tvCons (tvVar 5) tvNil)) (tvCons (tvVar 6) (tvCons (tvVar 1) tvNil)))))))))
theorem links_one {links : List Str} {sep : Str} (h : LinksOk links sep) {z : Str} {a : Nat} {r : List Nat} (hz : z.cps.toList.drop a = TL.tl sep ++ r) : (links.filter fun l => decide (cutS z (some (a : Nat)) (some ((a + l.length : Nat) : Int)) = l)) = [sep] := by
  have cut : ∀ l : Str, (z.cps.toList.drop a).take (a + l.length - a) = (TL.tl sep ++ r).take (TL.tl l).length := fun l => by
    rw [hz, show a + l.length - a = (TL.tl l).length by rw [← TL.len_tl]; omega]
  have yes : decide (cutS z (some (a : Nat)) (some ((a + sep.length : Nat) : Int)) = sep) = true := decide_eq_true (cut_is (by omega) (by rw [cut, List.take_left' rfl]))
  rcases h with ⟨rfl, up, rfl⟩ | ⟨rfl, rfl⟩
  · have no : ∀ up up' : Bool, up ≠ up' → (TL.tl (linkS up) ++ r).take (TL.tl (linkS up')).length ≠ TL.tl (linkS up') := fun up up' hne => by
      have e1 : TL.tl (linkS true) = [32, 43, 32] := by decide +kernel
      have e2 : TL.tl (linkS false) = [32, 45, 32] := by decide +kernel
      cases up <;> cases up' <;> first | exact absurd rfl hne | (rw [e1, e2]; simp)
    cases up with
    | true =>
      have hn : decide (cutS z (some (a : Nat)) (some ((a + (linkS false).length : Nat) : Int)) = linkS false) = false := decide_eq_false (cut_not (by omega) (by rw [cut]; exact no true false (by simp)))
      rw [List.filter_cons, yes, if_pos rfl, List.filter_cons, hn]; rfl
    | false =>
      have hn : decide (cutS z (some (a : Nat)) (some ((a + (linkS true).length : Nat) : Int)) = linkS true) = false := decide_eq_false (cut_not (by omega) (by rw [cut]; exact no false true (by simp)))
      rw [List.filter_cons, hn, if_neg (by simp), List.filter_cons, yes]; rfl
  · rw [List.filter_cons, yes]; rfl
theorem t_p_read_parts (n : Nat) : ∀ ds S Qv, F_p_read_parts (n + 1) ds S Qv → T_p_read_parts (F_p_read_part n) (endsV Qv) (stD 8 ds) S := by
  rintro ds S Qv ⟨z, a, deep, ps, links, sep, pre, rest, rfl, hz, hlk, h2, h100, hw, hps, htl, rfl, ⟨c0, r0, hrest, hc0⟩, q⟩
  obtain ⟨s0, hsep, hsl⟩ := sep_head hlk
  match ps, h2, h100, hw, hps, htl, q with
  | p1 :: p2 :: ps, _, h100, hw, hps, htl, q =>
    have hn : 2 ≤ n := by have := hps p1 (by simp); have := sizeT_pos p1 hw.1; omega
    obtain ⟨m, rfl⟩ : ∃ m, n = m + 1 := ⟨n - 1, by omega⟩
    rw [List.map_cons, joinL_flat, List.append_assoc] at htl
    unfold T_p_read_parts
    refine seq_cut fun K hK => ?_
    walk_at "vs"
    refine ⟨z, pre.length, deep, p1, pre, _, rfl, hz, htl, rfl, fun c hc => ?_, hw.1, by have := hps p1 (by simp); omega, (hps p1 (by simp)).2, ?_⟩
    · rw [List.map_cons, List.flatMap_cons, hsep] at hc
      simp only [List.cons_append, List.getElem?_cons_zero, Option.some.injEq] at hc
      subst hc
      unfold wordSign; omega
    show K [some (.str z), some (.int ((pre.length + (TL.tl (textT p1)).length : Nat))), some (.lst (links.map D.str)), some (.int (deep : Nat)), some (treeD p1), none, none, none] S
    refine hK _ _ ?_
    clear hK K
    refine seq_cut fun K hK => ?_
    walk_at "vs"
    refine ⟨sz, fun f hf => hK _ _ ?_⟩
    clear hK K
    refine seq_cut fun K hK => ?_
    walk_at "vs"
    rw [rcS_str]
    obtain ⟨b, hb⟩ : ∃ b, b = pre.length + (TL.tl (textT p1)).length := ⟨_, rfl⟩
    rw [← hb]
    have hdrop : z.cps.toList.drop b = TL.tl sep ++ (TL.tl (textT p2) ++ ((ps.map fun p => TL.tl (textT p)).flatMap (fun q => TL.tl sep ++ q) ++ rest)) := by
      rw [htl, hb, ← List.drop_drop, List.drop_left' rfl, List.drop_left' rfl, List.map_cons, List.flatMap_cons, List.append_assoc, List.append_assoc]
    have hll : links.length ≤ 2 := by
      rcases hlk with ⟨rfl, _⟩ | ⟨rfl, _⟩ <;> simp
    have hl3 : ∀ l ∈ links, l.length ≤ 3 := fun l hl => by
      have e1 : (linkS true).length = 3 := by decide +kernel
      have e2 : (linkS false).length = 3 := by decide +kernel
      have e3 : (" " : Str).length = 1 := by decide +kernel
      rcases hlk with ⟨rfl, _⟩ | ⟨rfl, _⟩
      · simp only [List.mem_cons, List.mem_nil_iff, or_false] at hl
        rcases hl with rfl | rfl <;> omega
      · rw [List.mem_singleton.mp hl]; omega
    refine ⟨trivial, sz (by rw [List.length_map]; omega), ?_⟩
    refine comp_eachT (fun l : Str => decide (cutS z (some (b : Nat)) (some ((b + l.length : Nat) : Int)) = l)) (enc := D.str) (out := D.str) _ _ (fun l hl => ⟨_, bind_name, fun Q' q' => ?_, fun _ Q' q' => ?_⟩) ?_
    · have := hl3 l hl
      simp only [sat]
      walk_at "vs"
      rw [q_lenZ (by omega)]
      walk_at "vs"
      rw [show (b : Int) + (l.length : Int) = ((b + l.length : Nat) : Int) by omega]
      refine (q_slZ hz).mpr ?_
      simp only [rvEq, q_eqZ, q_kB]
      exact q'
    · simp only [sat]
      walk_at "vs"
      exact q'
    · rw [links_one hlk hdrop]
      rw [q_join]
      have hj : Txt.join ("" : Str) [sep] = sep := by
        refine TL.ext_tl ?_
        rw [TL.join_eq, TL.tl_join]; rfl
      rw [hj]
      refine ⟨by simp only [List.map_cons, List.map_nil, List.sum_cons, List.sum_nil, List.length_cons, List.length_nil]; have e : ("" : Str).length = 0 := by decide +kernel
                 rw [e]; omega, hK _ _ ?_⟩
      clear hK K
      refine seq_cut fun K hK => ?_
      rw [q_while]
      refine ⟨(p2 :: ps).length + 1, ?_⟩
      have hlen : ∀ qs : List Tr, z.cps.toList.length = z.length := fun _ => by simp [Str.length]
      have hne : (sep = ("" : Str)) → False := fun e => by
        have e0 : TL.tl ("" : Str) = [] := by decide +kernel
        rw [e, e0] at hsep; cases hsep
      have key : ∀ (qs : List Tr) (b : Nat) (pre' : List Nat) (dn : List D) (x4 : D), WfTs qs → (∀ p ∈ qs, 2 * sizeT p + 1 ≤ m + 1 + 1 ∧ deep + sizeT p ≤ 40) → dn.length + qs.length ≤ 100 → z.cps.toList = pre' ++ ((qs.map fun p => TL.tl (textT p)).flatMap (fun q => TL.tl sep ++ q) ++ rest) → b = pre'.length →
          (∀ x4, K [some (.str z), some (.int ((b + ((qs.map fun p => TL.tl (textT p)).flatMap (fun q => TL.tl sep ++ q)).length : Nat))), some (.lst (links.map D.str)), some (.int (deep : Nat)), some x4, some (.ref f), some (.str sep), none] (ust S f (.lst (dn ++ qs.map treeD)))) →
          whileV (tvAnd (tvTest (tvOp rvNe (tvVar 6) (tvC (.str "")))) (tvTest (tvOp rvEq (tvSl rvSlS (tvVar 0) (tvPart (tvVar 1)) (tvPart (tvOp rvAdd (tvVar 1) (tvCB rvLen (tvCons (tvVar 6) tvNil))))) (tvVar 6))))
            (tvSeq (tvBind (.tup [(.name 4), (.name 1)]) (tvCall (F_p_read_part (m + 1)) (tvCons (tvVar 0) (tvCons (tvOp rvAdd (tvVar 1) (tvCB rvLen (tvCons (tvVar 6) tvNil))) (tvCons (tvVar 3) tvNil)))))
              (tvDrop (tvBMr rcL rvApp (tvVar 5) (tvCons (tvVar 4) tvNil))))
            { nx := K, rt := fin Qv, bk := (endsV Qv).bk, ct := (endsV Qv).ct } (qs.length + 1) [some (.str z), some (.int (b : Nat)), some (.lst (links.map D.str)), some (.int (deep : Nat)), some x4, some (.ref f), some (.str sep), none] (ust S f (.lst dn)) := by
        intro qs
        induction qs with
        | nil =>
          intro b pre' dn x4 _ _ _ htl hb hk
          rw [q_whileS]
          walk_at "vs"
          simp only [rvNe, q_eqZ, q_kB]
          rw [decide_eq_false hne]
          simp only [Bool.not_false, if_true]
          rw [q_lenZ (by omega)]
          walk_at "vs"
          rw [show (b : Int) + (sep.length : Int) = ((b + sep.length : Nat) : Int) by omega]
          refine (q_slZ hz).mpr ?_
          simp only [rvEq, q_eqZ, q_kB]
          rw [decide_eq_false (cut_not (by omega) (by
            rw [htl, hb, List.map_nil, List.flatMap_nil, List.nil_append, List.drop_left' rfl, hrest]
            show List.take _ (c0 :: r0) ≠ TL.tl sep
            rw [show pre'.length + sep.length - pre'.length = s0.length + 1 by rw [Nat.add_sub_cancel_left, TL.len_tl, hsep]; rfl, hsep, List.take_succ_cons]
            intro e
            have := (List.cons.inj e).1
            omega))]
          simp only [Bool.false_eq_true, if_false]
          have := hk x4
          simpa using this
        | cons p qs ih =>
          intro b pre' dn x4 hw hq hln htl hb hk
          rw [List.map_cons, List.flatMap_cons] at htl hk
          rw [q_whileS]
          walk_at "vs"
          simp only [rvNe, q_eqZ, q_kB]
          rw [decide_eq_false hne]
          simp only [Bool.not_false, if_true]
          rw [q_lenZ (by omega)]
          walk_at "vs"
          rw [show (b : Int) + (sep.length : Int) = ((b + sep.length : Nat) : Int) by omega]
          refine (q_slZ hz).mpr ?_
          simp only [rvEq, q_eqZ, q_kB]
          have hd : z.cps.toList.drop b = TL.tl sep ++ (TL.tl (textT p) ++ ((qs.map fun p => TL.tl (textT p)).flatMap (fun q => TL.tl sep ++ q) ++ rest)) := by
            rw [htl, hb, List.drop_left' rfl, List.append_assoc, List.append_assoc]
          rw [decide_eq_true (cut_is (by omega) (by rw [hd, show b + sep.length - b = (TL.tl sep).length by rw [← TL.len_tl]; omega, List.take_left' rfl]))]
          simp only [if_true]
          rw [q_lenZ (by omega)]
          walk_at "vs"
          rw [show (b : Int) + (sep.length : Int) = ((b + sep.length : Nat) : Int) by omega]
          refine ⟨z, b + sep.length, deep, p, pre' ++ TL.tl sep, (qs.map fun p => TL.tl (textT p)).flatMap (fun q => TL.tl sep ++ q) ++ rest, rfl, hz, by rw [htl]; simp only [List.append_assoc], by rw [List.length_append, ← TL.len_tl, hb], fun c hc => ?_, hw.1, by have := hq p (by simp); omega, (hq p (by simp)).2, ?_⟩
          · cases qs with
            | nil =>
              rw [List.map_nil, List.flatMap_nil, List.nil_append, hrest] at hc
              simp only [List.getElem?_cons_zero, Option.some.injEq] at hc
              subst hc
              unfold wordSign; omega
            | cons q2 qs2 =>
              rw [List.map_cons, List.flatMap_cons, hsep] at hc
              simp only [List.cons_append, List.getElem?_cons_zero, Option.some.injEq] at hc
              subst hc
              unfold wordSign; omega
          · have e : (b + sep.length + (TL.tl (textT p)).length) + ((qs.map fun p => TL.tl (textT p)).flatMap (fun q => TL.tl sep ++ q)).length = b + (TL.tl sep ++ TL.tl (textT p) ++ (qs.map fun p => TL.tl (textT p)).flatMap (fun q => TL.tl sep ++ q)).length := by
              simp only [List.length_append]; rw [TL.len_tl sep]; omega
            show tvDrop (tvBMr rcL rvApp (tvVar 5) (tvCons (tvVar 4) tvNil)) _ [some (.str z), some (.int ((b + sep.length + (TL.tl (textT p)).length : Nat))), some (.lst (links.map D.str)), some (.int (deep : Nat)), some (treeD p), some (.ref f), some (.str sep), none] (ust S f (.lst dn))
            walk_at "vs"
            rw [q_rcO ust_same, q_appO ust_same]
            simp only [List.length_cons] at hln
            refine ⟨trivial, sz2 (by omega), ?_⟩
            rw [ust_ust]
            refine ih _ (pre' ++ TL.tl sep ++ TL.tl (textT p)) (dn ++ [treeD p]) (treeD p) hw.2 (fun p hp => hq p (List.mem_cons_of_mem _ hp)) (by rw [List.length_append]; simp only [List.length_cons, List.length_nil]; omega) (by rw [htl]; simp only [List.append_assoc]) (by rw [List.length_append, List.length_append, ← TL.len_tl sep, hb]) fun x4 => ?_
            have h := hk x4
            rw [List.map_cons, List.append_cons, ← e] at h
            exact h
      refine key (p2 :: ps) b (pre ++ TL.tl (textT p1)) [treeD p1] (treeD p1) hw.2 (fun p hp => hps p (List.mem_cons_of_mem _ hp)) (by simp only [List.length_cons, List.length_nil] at h100 ⊢; omega) (by rw [htl]; simp only [List.append_assoc]) (by rw [List.length_append, hb]) fun x4 => hK _ _ ?_
      clear key hK K
      walk_at "vs"
      simp only [rvTuple, vw_own ust_same]
      refine ⟨sz, fin_sub (sub_new hf) ?_⟩
      have e : b + (List.flatMap (fun q => TL.tl sep ++ q) (TL.tl (textT p2) :: ps.map fun p => TL.tl (textT p))).length = pre.length + (TL.joinL (TL.tl sep) ((p1 :: p2 :: ps).map fun p => TL.tl (textT p))).length := by
        rw [List.map_cons, List.map_cons, joinL_flat, List.length_append, hb]; omega
      rw [e]
      exact q
def T_p_read_part (Fr : FS) : TSv := (tvSeq (tvDrop (tvCall F_p_must_be (tvCons (tvOp rvLt (tvVar 2) (tvC (.int 40))) tvNil)))
  (tvSeq (tvIf (tvTest (tvOp rvEq (tvSl rvSlS (tvVar 0) (tvPart (tvVar 1)) (tvPart (tvOp rvAdd (tvVar 1) (tvC (.int 1))))) (tvC (.str "("))))
  (tvSeq (tvBind (.tup [(.name 3), (.name 4), (.name 5)]) (tvCall Fr (tvCons (tvVar 0) (tvCons (tvOp rvAdd (tvVar 1) (tvC (.int 1))) (tvCons (tvLst (tvCons (tvC (.str " + ")) (tvCons (tvC (.str " - ")) tvNil))) (tvCons (tvOp rvAdd (tvVar 2) (tvC (.int 1))) tvNil))))))
  (tvSeq (tvDrop (tvCall F_p_must_be (tvCons (tvAndV (tvOp rvNe (tvVar 4) (tvC (.str ""))) (tvOp rvEq (tvSl rvSlS (tvVar 0) (tvPart (tvVar 5)) (tvPart (tvOp rvAdd (tvVar 5) (tvC (.int 1))))) (tvC (.str ")")))) tvNil)))
  (tvRet (tvTup (tvCons (tvTup (tvCons (tvOp rvIx (tvLst (tvCons (tvC (.str "fall")) (tvCons (tvC (.str "rise")) tvNil))) (tvCB (rvInt1 (fun i => .int i) fun k => .int (if k then 1 else 0)) (tvCons (tvOp rvEq (tvVar 4) (tvKd [("rise", " + "), ("fall", " - ")] (tvC (.str "rise")))) tvNil))) (tvCons (tvVar 3) tvNil))) (tvCons (tvOp rvAdd (tvVar 5) (tvC (.int 1))) tvNil))))))
  tvNext)
  (tvSeq (tvSet 5 (tvCall F_p_word_end (tvCons (tvVar 0) (tvCons (tvVar 1) tvNil))))
  (tvSeq (tvIf (tvTest (tvOp rvEq (tvSl rvSlS (tvVar 0) (tvPart (tvVar 1)) (tvPart (tvVar 5))) (tvC (.str "1"))))
  (tvRet (tvTup (tvCons (tvC (.tup [.str "one"])) (tvCons (tvVar 5) tvNil))))
  tvNext)
  (tvSeq (tvSet 6 (tvCall F_p_row_read (tvCons (tvSl rvSlS (tvVar 0) (tvPart (tvVar 1)) (tvPart (tvVar 5))) (tvCons (tvC (.str ".")) tvNil))))
  (tvSeq (tvDrop (tvCall F_p_must_be (tvCons (tvAndV (tvOp rvEq (tvSl rvSlS (tvVar 0) (tvPart (tvVar 5)) (tvPart (tvOp rvAdd (tvVar 5) (tvC (.int 1))))) (tvC (.str "["))) (tvCall F_p_is_unbroken (tvCons (tvVar 6) tvNil))) tvNil)))
  (tvSeq (tvBind (.tup [(.name 3), (.name 4), (.name 5)]) (tvCall Fr (tvCons (tvVar 0) (tvCons (tvOp rvAdd (tvVar 5) (tvC (.int 1))) (tvCons (tvLst (tvCons (tvC (.str " ")) tvNil)) (tvCons (tvOp rvAdd (tvVar 2) (tvC (.int 1))) tvNil))))))
  (tvSeq (tvDrop (tvCall F_p_must_be (tvCons (tvAndV (tvOp rvEq (tvSl rvSlS (tvVar 0) (tvPart (tvVar 5)) (tvPart (tvOp rvAdd (tvVar 5) (tvC (.int 1))))) (tvC (.str "]"))) (tvOp rvEq (tvCB rvLen (tvCons (tvVar 3) tvNil)) (tvCB rvLen (tvCons (tvVar 6) tvNil)))) tvNil)))
  (tvRet (tvTup (tvCons (tvTup (tvCons (tvC (.str "shape")) (tvCons (tvVar 6) (tvCons (tvVar 3) tvNil)))) (tvCons (tvOp rvAdd (tvVar 5) (tvC (.int 1))) tvNil))))))))))))
/-- a sign cut out -/
theorem q_cut1 {S : Own} {Q : KE} {g : Bool → Bool} {z y : Str} {a c d : Nat} {r : List Nat} (hd : z.cps.toList.drop a = c :: r) (hy : y.cps.toList = [d]) : rvEqv g (.str (cutS z (some (a : Nat)) (some ((a + 1 : Nat) : Int)))) (.str y) S Q = Q (.bl (g (decide (c = d)))) S := by
  rw [q_eqZ]
  have e : (z.cps.toList.drop a).take (a + 1 - a) = [c] := by rw [hd, Nat.add_sub_cancel_left]; rfl
  by_cases h : c = d
  · subst h
    rw [decide_eq_true (cut_is (by omega) (by rw [e, hy])), decide_eq_true rfl]
  · rw [decide_eq_false (cut_not (by omega) (by rw [e, hy]; intro h2; exact h (List.cons.inj h2).1)), decide_eq_false h]
theorem y_open : ("(" : Str).cps.toList = [40] := by decide +kernel
theorem y_shut : (")" : Str).cps.toList = [41] := by decide +kernel
theorem y_bop : ("[" : Str).cps.toList = [91] := by decide +kernel
theorem y_bsh : ("]" : Str).cps.toList = [93] := by decide +kernel
theorem dots_tl {sh : List Int} (hr : Row sh) (h2 : 2 ≤ sh.length ∧ sh.length ≤ 40) : (∃ c r, (48 ≤ c ∧ c ≤ 57) ∧ TL.tl (rowDots sh) = c :: r) ∧ (∀ c ∈ TL.tl (rowDots sh), wordSign c) ∧ 2 ≤ (TL.tl (rowDots sh)).length := by
  have hb : ∀ x ∈ sh, ∃ n : Nat, x = n ∧ 1 ≤ n ∧ n ≤ 99 := fun x hx => by
    have := hr.mem.mp hx
    obtain ⟨n, rfl⟩ := Int.eq_ofNat_of_zero_le (show 0 ≤ x by omega)
    exact ⟨n, rfl, by omega, by omega⟩
  have e3 : TL.tl ("." : Str) = [46] := by decide +kernel
  have he : TL.tl (rowDots sh) = TL.joinL [46] (sh.map fun x => TL.tl (itoS x)) := by
    unfold rowDots
    rw [TL.join_eq, TL.tl_join, e3, List.map_map]; rfl
  rw [he]
  match sh, h2.1, hb with
  | a :: b :: l, _, hb =>
    obtain ⟨n, rfl, n1, n2⟩ := hb a (by simp)
    obtain ⟨a1, a2, a3⟩ := numL_two n1 n2
    rw [List.map_cons, joinL_flat, tl_itoS]
    have hcons : ∃ c r, TL.numL n = c :: r := by
      cases e : TL.numL n with
      | nil => rw [e] at a1; simp at a1
      | cons c r => exact ⟨c, r, rfl⟩
    obtain ⟨c, r, e⟩ := hcons
    have hd := TL.numL_digits n
    refine ⟨⟨c, r ++ _, hd c (by rw [e]; simp), by rw [e]; rfl⟩, fun c' hc => ?_, ?_⟩
    · rcases List.mem_append.mp hc with hc | hc
      · exact .inl (hd c' hc)
      · obtain ⟨q, hq, hc⟩ := List.mem_flatMap.mp hc
        obtain ⟨x, hx, rfl⟩ := List.mem_map.mp hq
        obtain ⟨k, rfl, k1, k2⟩ := hb x (List.mem_cons_of_mem _ hx)
        rcases List.mem_append.mp hc with hc | hc
        · exact .inr (List.mem_singleton.mp hc)
        · rw [tl_itoS] at hc; exact .inl (TL.numL_digits k c' hc)
    · rw [List.length_append, List.map_cons, List.flatMap_cons, List.length_append, List.length_append]
      simp only [List.length_cons, List.length_nil]
      omega
theorem t_p_read_part (n : Nat) : ∀ ds S Qv, F_p_read_part (n + 1) ds S Qv → T_p_read_part (F_p_read_parts n) (endsV Qv) (stD 7 ds) S := by
  rintro ds S Qv ⟨z, a, deep, t, pre, rest, rfl, hz, htl, rfl, hrest, hw, hn, hdp, q⟩
  have hsz := sizeT_pos t hw
  have hzl : z.cps.toList.length = z.length := by simp [Str.length]
  unfold T_p_read_part
  refine seq_cut fun K hK => ?_
  walk_at "vs"
  rw [decide_eq_true (show ((deep : Nat) : Int) < 40 by omega)]
  refine ⟨rfl, hK _ _ ?_⟩
  clear hK K
  refine seq_cut fun K hK => ?_
  walk_at "vs"
  rw [show ((pre.length : Nat) : Int) + 1 = ((pre.length + 1 : Nat) : Int) by omega]
  refine (q_slZ hz).mpr ?_
  simp only [rvEq]
  cases t with
  | one =>
    rw [tl_one] at htl q
    have hdr : z.cps.toList.drop pre.length = 49 :: rest := by rw [htl, List.drop_left' rfl]; rfl
    rw [q_cut1 hdr y_open]
    simp only [q_kB]
    rw [if_neg (by decide)]
    refine hK _ _ ?_
    clear hK K
    refine seq_cut fun K hK => ?_
    walk_at "vs"
    refine ⟨z, pre.length, 1, rfl, hz, by rw [htl]; simp, fun k h1 h2 => ⟨49, ?_, .inl (by omega)⟩, fun c hc => hrest c ?_, hK _ _ ?_⟩
    · rw [htl, show k = pre.length by omega, List.getElem?_append_right (by omega), Nat.sub_self]; rfl
    · rw [htl, List.getElem?_append_right (by omega), Nat.add_sub_cancel_left] at hc; exact hc
    · clear hK K
      refine seq_cut fun K hK => ?_
      walk_at "vs"
      refine (q_slZ hz).mpr ?_
      simp only [rvEq]
      rw [q_cut1 hdr (show ("1" : Str).cps.toList = [49] by decide +kernel)]
      simp only [q_kB]
      rw [if_pos (by decide)]
      exact ⟨sz, fin_of q⟩
  | run up ps =>
    obtain ⟨w1, w2, w3⟩ : 2 ≤ ps.length ∧ (∀ p ∈ ps, headT p ≠ some up) ∧ WfTs ps := by simpa [WfT] using hw
    have hge := sizeTs_ge ps w3
    simp only [sizeT] at hn hdp hsz
    have hkid := fun p (hp : p ∈ ps) => size_some ps w3 hp
    rw [tl_run] at htl q
    have hdr : z.cps.toList.drop pre.length = 40 :: (TL.joinL (TL.tl (linkS up)) (ps.map fun p => TL.tl (textT p)) ++ [41] ++ rest) := by rw [htl, List.drop_left' rfl]; rfl
    rw [q_cut1 hdr y_open]
    simp only [q_kB]
    rw [if_pos (by decide)]
    obtain ⟨m, rfl⟩ : ∃ m, n = m + 1 := ⟨n - 1, by omega⟩
    refine ⟨sz, z, pre.length + 1, deep + 1, ps, [linkS true, linkS false], linkS up, pre ++ [40], 41 :: rest, rfl, hz, .inl ⟨rfl, up, rfl⟩, w1, by omega, w3, fun p hp => ⟨by have := hkid p hp; omega, by have := hkid p hp; omega⟩, by rw [htl]; simp only [List.append_assoc, List.cons_append, List.nil_append], by rw [List.length_append]; rfl, ⟨41, rest, rfl, .inl rfl⟩, ?_⟩
    obtain ⟨e, he⟩ : ∃ e, e = pre.length + 1 + (TL.joinL (TL.tl (linkS up)) (ps.map fun p => TL.tl (textT p))).length := ⟨_, rfl⟩
    rw [← he]
    have hde : z.cps.toList.drop e = 41 :: rest := by
      rw [htl, he, ← List.drop_drop, ← List.drop_drop, List.drop_left' rfl]
      simp only [List.cons_append, List.drop_succ_cons, List.drop_zero, List.append_assoc, List.nil_append]
      rw [List.drop_left' rfl]
    have hb3 : ∀ (K : VS → Own → Prop), K [some (.str z), some (.int (pre.length : Nat)), some (.int (deep : Nat)), some (.tup (ps.map treeD)), some (.str (linkS up)), some (.int (e : Nat)), none] S → kbind (.tup [.name 3, .name 4, .name 5]) [some (.str z), some (.int (pre.length : Nat)), some (.int (deep : Nat)), none, none, none, none] S K (.tup [.tup (ps.map treeD), .str (linkS up), .int (e : Nat)]) := fun K h => h
    refine hb3 _ ?_
    refine seq_cut fun K2 hK2 => ?_
    walk_at "vs"
    simp only [rvNe, q_eqZ, q_kB]
    have hlne : linkS up ≠ ("" : Str) := by cases up <;> decide +kernel
    rw [decide_eq_false hlne]
    simp only [Bool.not_false, if_true]
    rw [show (e : Int) + 1 = ((e + 1 : Nat) : Int) by omega]
    refine (q_slZ hz).mpr ?_
    rw [q_cut1 hde y_shut, decide_eq_true rfl]
    refine ⟨rfl, hK2 _ _ ?_⟩
    clear hK2 K2 hb3
    walk_at "vs"
    have hlk : decide (linkS up = (" + " : Str)) = up := by cases up <;> decide +kernel
    have hend : ∀ Q : KE, Q (.str (wordOf up)) S → rvIx (.lst [.str "fall", .str "rise"]) (.int (if up = true then 1 else 0)) S Q := fun Q h => by cases up <;> exact h
    rw [q_kd]
    refine ⟨sz, _, _, rfl, List.mem_cons_self, ?_⟩
    rw [q_eqZ, hlk, q_intB]
    refine hend _ ⟨sz, sz, ?_⟩
    have e2 : ((pre.length + (40 :: (TL.joinL (TL.tl (linkS up)) (ps.map fun p => TL.tl (textT p)) ++ [41])).length : Nat) : Int) = (e : Int) + 1 := by
      simp only [List.length_cons, List.length_append, List.length_nil]; omega
    rw [e2] at q
    simp only [treeD, treeDs_map] at q
    exact fin_of q
  | shp sh ps =>
    obtain ⟨w1, w2, w3, w4⟩ : Unb sh ∧ sh.length ≤ 40 ∧ sh.length = ps.length ∧ WfTs ps := by simpa [WfT] using hw
    have hge := sizeTs_ge ps w4
    simp only [sizeT] at hn hdp hsz
    have hkid := fun p (hp : p ∈ ps) => size_some ps w4 hp
    have h4 := unb_len4 w1
    rw [tl_shp] at htl q
    obtain ⟨f1, f2, f3⟩ := dots_tl w1.row ⟨by omega, w2⟩
    generalize hds : TL.tl (rowDots sh) = dl at htl q f1 f2 f3
    have hdr0 : z.cps.toList.drop pre.length = dl ++ (91 :: (TL.joinL [32] (ps.map fun p => TL.tl (textT p)) ++ [93]) ++ rest) := by rw [htl, List.drop_left' rfl, List.append_assoc]
    obtain ⟨c0, dr, hc0, hdl⟩ := f1
    rw [q_cut1 (c := c0) (r := dr ++ (91 :: (TL.joinL [32] (ps.map fun p => TL.tl (textT p)) ++ [93]) ++ rest)) (by rw [hdr0, hdl]; rfl) y_open]
    simp only [q_kB]
    rw [if_neg (by rw [decide_eq_false (by omega)]; simp)]
    refine hK _ _ ?_
    clear hK K
    refine seq_cut fun K hK => ?_
    walk_at "vs"
    refine ⟨z, pre.length, dl.length, rfl, hz, by rw [htl]; simp only [List.length_append]; omega, fun k h1 h2 => ?_, fun c hc => ?_, hK _ _ ?_⟩
    · have hk : k - pre.length < dl.length := by omega
      refine ⟨dl[k - pre.length], ?_, f2 _ (List.getElem_mem hk)⟩
      rw [htl, List.getElem?_append_right (by omega), List.getElem?_append_left (by simp only [List.length_append]; omega), List.getElem?_append_left hk, List.getElem?_eq_getElem hk]
    · rw [htl, List.getElem?_append_right (by omega), Nat.add_sub_cancel_left, List.append_assoc, List.getElem?_append_right (by omega), Nat.sub_self] at hc
      simp only [List.cons_append, List.getElem?_cons_zero, Option.some.injEq] at hc
      subst hc
      unfold wordSign; omega
    · clear hK K
      have hcut : cutS z (some (pre.length : Nat)) (some ((pre.length + dl.length : Nat) : Int)) = rowDots sh := cut_is (by omega) (by rw [hdr0, Nat.add_sub_cancel_left, List.take_left' rfl]; exact hds.symm)
      refine seq_cut fun K hK => ?_
      walk_at "vs"
      refine (q_slZ hz).mpr ?_
      rw [hcut]
      simp only [rvEq, q_eqZ, q_kB]
      rw [decide_eq_false (fun e => by
        have := congrArg TL.tl e
        rw [hds, show TL.tl ("1" : Str) = [49] by decide +kernel] at this
        rw [this] at f3
        simp at f3)]
      simp only [Bool.false_eq_true, if_false]
      refine hK _ _ ?_
      clear hK K
      refine seq_cut fun K hK => ?_
      walk_at "vs"
      refine (q_slZ hz).mpr ?_
      rw [hcut]
      refine ⟨sh, _, rfl, .inr rfl, w1.row, by omega, w2, hK _ _ ?_⟩
      clear hK K
      obtain ⟨g, hg⟩ : ∃ g, g = pre.length + dl.length := ⟨_, rfl⟩
      rw [← hg]
      have hdg : z.cps.toList.drop g = 91 :: (TL.joinL [32] (ps.map fun p => TL.tl (textT p)) ++ [93] ++ rest) := by
        rw [hg, ← List.drop_drop, hdr0, List.drop_left' rfl]; rfl
      refine seq_cut fun K hK => ?_
      walk_at "vs"
      rw [show (g : Int) + 1 = ((g + 1 : Nat) : Int) by omega]
      refine (q_slZ hz).mpr ?_
      simp only [rvEq]
      rw [q_cut1 hdg y_bop, decide_eq_true rfl]
      simp only [q_kB, if_true]
      obtain ⟨r1, r2⟩ := row_isD w1.row (by omega) w2
      refine ⟨40, 1, _, rfl, r2, by omega, by omega, ?_⟩
      rw [unb_tup w1 w2]
      refine ⟨rfl, hK _ _ ?_⟩
      clear hK K
      obtain ⟨m, rfl⟩ : ∃ m, n = m + 1 := ⟨n - 1, by omega⟩
      refine seq_cut fun K hK => ?_
      walk_at "vs"
      refine ⟨sz, z, g + 1, deep + 1, ps, [(" " : Str)], (" " : Str), pre ++ dl ++ [91], 93 :: rest, rfl, hz, .inr ⟨rfl, rfl⟩, by omega, by omega, w4, fun p hp => ⟨by have := hkid p hp; omega, by have := hkid p hp; omega⟩, by rw [htl, show TL.tl (" " : Str) = [32] by decide +kernel]; simp only [List.append_assoc, List.cons_append, List.nil_append], by rw [List.length_append, List.length_append, hg]; rfl, ⟨93, rest, rfl, .inr rfl⟩, ?_⟩
      rw [show TL.tl (" " : Str) = [32] by decide +kernel]
      obtain ⟨e, he⟩ : ∃ e, e = g + 1 + (TL.joinL [32] (ps.map fun p => TL.tl (textT p))).length := ⟨_, rfl⟩
      rw [← he]
      have hde : z.cps.toList.drop e = 93 :: rest := by
        rw [he, ← List.drop_drop, ← List.drop_drop, hdg]
        simp only [List.drop_succ_cons, List.drop_zero, List.append_assoc, List.cons_append, List.nil_append]
        rw [List.drop_left' rfl]
      have hb3 : ∀ (K : VS → Own → Prop), K [some (.str z), some (.int (pre.length : Nat)), some (.int (deep : Nat)), some (.tup (ps.map treeD)), some (.str (" " : Str)), some (.int (e : Nat)), some (tupI sh)] S → kbind (.tup [.name 3, .name 4, .name 5]) [some (.str z), some (.int (pre.length : Nat)), some (.int (deep : Nat)), none, none, some (.int (g : Nat)), some (tupI sh)] S K (.tup [.tup (ps.map treeD), .str (" " : Str), .int (e : Nat)]) := fun K h => h
      refine hb3 _ (hK _ _ ?_)
      clear hK K hb3
      refine seq_cut fun K hK => ?_
      walk_at "vs"
      rw [show (e : Int) + 1 = ((e + 1 : Nat) : Int) by omega]
      refine (q_slZ hz).mpr ?_
      simp only [rvEq]
      rw [q_cut1 hde y_bsh, decide_eq_true rfl]
      simp only [q_kB, if_true]
      rw [q_lenI, List.length_map]
      rw [q_eqI, decide_eq_true (show ((ps.length : Nat) : Int) = (sh.length : Nat) by omega)]
      refine ⟨rfl, hK _ _ ?_⟩
      clear hK K
      walk_at "vs"
      refine ⟨sz, sz, ?_⟩
      have e2 : ((pre.length + (dl ++ 91 :: (TL.joinL [32] (ps.map fun p => TL.tl (textT p)) ++ [93])).length : Nat) : Int) = (e : Int) + 1 := by
        simp only [List.length_cons, List.length_append, List.length_nil]; omega
      rw [e2] at q
      simp only [treeD, treeDs_map] at q
      exact fin_of q
def F_p_read_tree : FS := fun ds S Q => ∃ t, ds = [.str (textT t)] ∧ WfT t ∧ sizeT t ≤ 40 ∧ Q (treeD t) S
def T_p_read_tree : TSv := (tvSeq (tvDrop (tvCall F_p_must_be (tvCons (tvIsi isStr (tvVar 0)) tvNil)))
  (tvSeq (tvBind (.tup [(.name 1), (.name 2)]) (tvCall (F_p_read_part 90) (tvCons (tvVar 0) (tvCons (tvC (.int 0)) (tvCons (tvC (.int 0)) tvNil)))))
  (tvSeq (tvDrop (tvCall F_p_must_be (tvCons (tvAndV (tvOp rvEq (tvVar 2) (tvCB rvLen (tvCons (tvVar 0) tvNil))) (tvCall F_p_is_tree (tvCons (tvVar 1) tvNil))) tvNil)))
  (tvRet (tvVar 1)))))
theorem t_p_read_tree : ∀ ds S Qv, F_p_read_tree ds S Qv → T_p_read_tree (endsV Qv) (stD 3 ds) S := by
  rintro ds S Qv ⟨t, rfl, hw, h40, q⟩
  have htl := text_len 40 t h40 hw
  unfold T_p_read_tree
  refine seq_cut fun K hK => ?_
  walk_at "vs"
  refine ⟨_, rfl, rfl, hK _ _ ?_⟩
  clear hK K
  refine seq_cut fun K hK => ?_
  walk_at "vs"
  refine ⟨textT t, 0, 0, t, [], [], rfl, by omega, by simp, rfl, fun c hc => by simp at hc, hw, (by show 2 * sizeT t ≤ 90; omega), by omega, ?_⟩
  have hb3 : ∀ (K : VS → Own → Prop), K [some (.str (textT t)), some (treeD t), some (.int ((0 + (TL.tl (textT t)).length : Nat)))] S → kbind (.tup [.name 1, .name 2]) [some (.str (textT t)), none, none] S K (.tup [treeD t, .int ((0 + (TL.tl (textT t)).length : Nat))]) := fun K h => h
  refine hb3 _ (hK _ _ ?_)
  clear hK K hb3
  refine seq_cut fun K hK => ?_
  walk_at "vs"
  rw [q_lenZ (by omega)]
  simp only [rvEq, q_eqI]
  rw [decide_eq_true (show ((0 + (TL.tl (textT t)).length : Nat) : Int) = ((textT t).length : Nat) by rw [← TL.len_tl]; omega)]
  simp only [q_kB, if_true]
  have h1 := sizeT_pos t hw
  refine ⟨42, 2 * sizeT t + 1, _, rfl, thd_tree 40 t h40 (by omega) hw, by omega, by omega, ?_⟩
  have e : isTreeD (treeD t) = true := by
    unfold isTreeD
    rw [size_tree 101 t (by omega) hw, decide_eq_true h1, decide_eq_true h40]; rfl
  rw [e]
  refine ⟨rfl, hK _ _ ?_⟩
  walk_at "vs"
  exact fin_of q
end VL
namespace K55
open PySem PySem.Spec PyProof.Rows L2 VL
def topS (i : Nat) : Stmt := PySem.Challenge.pw_knotlessrows_k55_rows_and_trees_read.main.body.getD i (.Pass ⟨0, 0, 0, 0⟩)

abbrev st_p_is_whole : Stmt := topS 6
theorem sc_p_is_whole : FnScope ["thing"] ["thing"] (defScope st_p_is_whole) := ⟨rfl, rfl, rfl, by decide +kernel, rfl, by decide +kernel, by decide +kernel⟩

abbrev st_p_is_from : Stmt := topS 7
theorem sc_p_is_from : FnScope ["thing", "least", "most"] ["thing", "least", "most"] (defScope st_p_is_from) := ⟨rfl, rfl, rfl, by decide +kernel, rfl, by decide +kernel, by decide +kernel⟩

abbrev st_p_is_row : Stmt := topS 8
theorem sc_p_is_row : FnScope ["thing", "one"] ["thing"] (defScope st_p_is_row) := ⟨rfl, rfl, rfl, by decide +kernel, rfl, by decide +kernel, by decide +kernel⟩

abbrev st_p_closed_up : Stmt := topS 9
theorem sc_p_closed_up : FnScope ["numbers", "order", "one"] ["numbers"] (defScope st_p_closed_up) := ⟨rfl, rfl, rfl, by decide +kernel, rfl, by decide +kernel, by decide +kernel⟩

abbrev st_p_are_places : Stmt := topS 10
theorem sc_p_are_places : FnScope ["row", "thing", "one", "other"] ["row", "thing"] (defScope st_p_are_places) := ⟨rfl, rfl, rfl, by decide +kernel, rfl, by decide +kernel, by decide +kernel⟩

abbrev st_p_shape_at : Stmt := topS 11
theorem sc_p_shape_at : FnScope ["row", "places", "place"] ["row", "places"] (defScope st_p_shape_at) := ⟨rfl, rfl, rfl, by decide +kernel, rfl, by decide +kernel, by decide +kernel⟩

abbrev st_p_whole_ends : Stmt := topS 13
theorem sc_p_whole_ends : FnScope ["row", "begin", "found", "low", "high", "end"] ["row", "begin"] (defScope st_p_whole_ends) := ⟨rfl, rfl, rfl, by decide +kernel, rfl, by decide +kernel, by decide +kernel⟩

abbrev st_p_whole_stretches : Stmt := topS 14
theorem sc_p_whole_stretches : FnScope ["row", "found", "begin", "end"] ["row"] (defScope st_p_whole_stretches) := ⟨rfl, rfl, rfl, by decide +kernel, rfl, by decide +kernel, by decide +kernel⟩

abbrev st_p_is_unbroken : Stmt := topS 15
theorem sc_p_is_unbroken : FnScope ["thing"] ["thing"] (defScope st_p_is_unbroken) := ⟨rfl, rfl, rfl, by decide +kernel, rfl, by decide +kernel, by decide +kernel⟩

abbrev st_p_has_parts : Stmt := topS 19
theorem sc_p_has_parts : FnScope ["thing", "many"] ["thing", "many"] (defScope st_p_has_parts) := ⟨rfl, rfl, rfl, by decide +kernel, rfl, by decide +kernel, by decide +kernel⟩

abbrev st_p_is_node : Stmt := topS 20
theorem sc_p_is_node : FnScope ["thing", "part"] ["thing"] (defScope st_p_is_node) := ⟨rfl, rfl, rfl, by decide +kernel, rfl, by decide +kernel, by decide +kernel⟩

abbrev st_p_size_of : Stmt := topS 21
theorem sc_p_size_of : FnScope ["thing", "sizes", "part"] ["thing"] (defScope st_p_size_of) := ⟨rfl, rfl, rfl, by decide +kernel, rfl, by decide +kernel, by decide +kernel⟩

abbrev st_p_is_tree : Stmt := topS 22
theorem sc_p_is_tree : FnScope ["thing"] ["thing"] (defScope st_p_is_tree) := ⟨rfl, rfl, rfl, by decide +kernel, rfl, by decide +kernel, by decide +kernel⟩

abbrev st_p_rise_cuts : Stmt := topS 23
theorem sc_p_rise_cuts : FnScope ["row", "found", "high", "place", "one"] ["row"] (defScope st_p_rise_cuts) := ⟨rfl, rfl, rfl, by decide +kernel, rfl, by decide +kernel, by decide +kernel⟩

abbrev st_p_block_cuts : Stmt := topS 24
theorem sc_p_block_cuts : FnScope ["row", "found", "ends", "end"] ["row"] (defScope st_p_block_cuts) := ⟨rfl, rfl, rfl, by decide +kernel, rfl, by decide +kernel, by decide +kernel⟩

abbrev st_p_parted : Stmt := topS 25
theorem sc_p_parted : FnScope ["row", "cuts", "begin", "end"] ["row", "cuts"] (defScope st_p_parted) := ⟨rfl, rfl, rfl, by decide +kernel, rfl, by decide +kernel, by decide +kernel⟩

abbrev st_p_tree_of : Stmt := topS 26
theorem sc_p_tree_of : FnScope ["row", "cuts", "part", "one"] ["row"] (defScope st_p_tree_of) := ⟨rfl, rfl, rfl, by decide +kernel, rfl, by decide +kernel, by decide +kernel⟩

abbrev st_p_must_be : Stmt := topS 30
theorem sc_p_must_be : FnScope ["truth"] ["truth"] (defScope st_p_must_be) := ⟨rfl, rfl, rfl, by decide +kernel, rfl, by decide +kernel, by decide +kernel⟩

abbrev st_p_show_row : Stmt := topS 31
theorem sc_p_show_row : FnScope ["row", "one"] ["row"] (defScope st_p_show_row) := ⟨rfl, rfl, rfl, by decide +kernel, rfl, by decide +kernel, by decide +kernel⟩

abbrev st_p_show_tree : Stmt := topS 32
theorem sc_p_show_tree : FnScope ["tree", "texts", "part", "one"] ["tree"] (defScope st_p_show_tree) := ⟨rfl, rfl, rfl, by decide +kernel, rfl, by decide +kernel, by decide +kernel⟩

abbrev st_p_numeral : Stmt := topS 33
theorem sc_p_numeral : FnScope ["word", "sign"] ["word"] (defScope st_p_numeral) := ⟨rfl, rfl, rfl, by decide +kernel, rfl, by decide +kernel, by decide +kernel⟩

abbrev st_p_row_read : Stmt := topS 34
theorem sc_p_row_read : FnScope ["text", "link", "row", "word"] ["text", "link"] (defScope st_p_row_read) := ⟨rfl, rfl, rfl, by decide +kernel, rfl, by decide +kernel, by decide +kernel⟩

abbrev st_p_read_row : Stmt := topS 35
theorem sc_p_read_row : FnScope ["thing"] ["thing"] (defScope st_p_read_row) := ⟨rfl, rfl, rfl, by decide +kernel, rfl, by decide +kernel, by decide +kernel⟩

abbrev st_p_word_end : Stmt := topS 36
theorem sc_p_word_end : FnScope ["text", "at"] ["text", "at"] (defScope st_p_word_end) := ⟨rfl, rfl, rfl, by decide +kernel, rfl, by decide +kernel, by decide +kernel⟩

abbrev st_p_read_parts : Stmt := topS 37
theorem sc_p_read_parts : FnScope ["text", "at", "links", "deep", "part", "found", "here", "link"] ["text", "at", "links", "deep"] (defScope st_p_read_parts) := ⟨rfl, rfl, rfl, by decide +kernel, rfl, by decide +kernel, by decide +kernel⟩

abbrev st_p_read_part : Stmt := topS 38
theorem sc_p_read_part : FnScope ["text", "at", "deep", "parts", "link", "end", "shape"] ["text", "at", "deep"] (defScope st_p_read_part) := ⟨rfl, rfl, rfl, by decide +kernel, rfl, by decide +kernel, by decide +kernel⟩

abbrev st_p_read_tree : Stmt := topS 39
theorem sc_p_read_tree : FnScope ["thing", "tree", "end"] ["thing"] (defScope st_p_read_tree) := ⟨rfl, rfl, rfl, by decide +kernel, rfl, by decide +kernel, by decide +kernel⟩

abbrev st_l_bag : Stmt := topS 41
theorem sc_l_bag : FnScope ["_law_script", "_law_at", "_law_cell", "_law_primes", "_law_number"] ["_law_script", "_law_at"] (defScope st_l_bag) := ⟨rfl, rfl, rfl, by decide +kernel, rfl, by decide +kernel, by decide +kernel⟩

abbrev st_l_take : Stmt := topS 42
theorem sc_l_take : FnScope ["_law_bag_here", "_law_many", "_law_digit"] ["_law_bag_here", "_law_many"] (defScope st_l_take) := ⟨rfl, rfl, rfl, by decide +kernel, rfl, by decide +kernel, by decide +kernel⟩

abbrev st_l_row : Stmt := topS 43
theorem sc_l_row : FnScope ["_law_bag_here", "_law_n", "_law_left", "_law_k"] ["_law_bag_here", "_law_n"] (defScope st_l_row) := ⟨rfl, rfl, rfl, by decide +kernel, rfl, by decide +kernel, by decide +kernel⟩

abbrev st_l_blocked : Stmt := topS 44
theorem sc_l_blocked : FnScope ["_law_row_here", "_law_begin", "_law_end", "_law_some"] ["_law_row_here"] (defScope st_l_blocked) := ⟨rfl, rfl, rfl, by decide +kernel, rfl, by decide +kernel, by decide +kernel⟩

abbrev st_l_unbroken : Stmt := topS 45
theorem sc_l_unbroken : FnScope ["_law_bag_here", "_law_most", "_law_row_here", "_law_some", "_law_one", "_law_place", "_law_number", "_law_lifted", "_law_more"] ["_law_bag_here", "_law_most"] (defScope st_l_unbroken) := ⟨rfl, rfl, rfl, by decide +kernel, rfl, by decide +kernel, by decide +kernel⟩

abbrev st_l_tree : Stmt := topS 46
theorem sc_l_tree : FnScope ["_law_bag_here", "_law_many", "_law_above", "_law_word", "_law_sizes", "_law_node", "_law_shape", "_law_left", "_law_k", "_law_size"] ["_law_bag_here", "_law_many", "_law_above"] (defScope st_l_tree) := ⟨rfl, rfl, rfl, by decide +kernel, rfl, by decide +kernel, by decide +kernel⟩

abbrev st_l_greater : Stmt := topS 47
theorem sc_l_greater : FnScope ["_law_bag_here", "_law_row_here", "_law_turn", "_law_place", "_law_number", "_law_lifted", "_law_one", "_law_more"] ["_law_bag_here", "_law_row_here"] (defScope st_l_greater) := ⟨rfl, rfl, rfl, by decide +kernel, rfl, by decide +kernel, by decide +kernel⟩

abbrev st_l_any_tree : Stmt := topS 48
theorem sc_l_any_tree : FnScope ["_law_bag_here", "_law_many", "_law_shape", "_law_at", "_law_inner"] ["_law_bag_here", "_law_many"] (defScope st_l_any_tree) := ⟨rfl, rfl, rfl, by decide +kernel, rfl, by decide +kernel, by decide +kernel⟩

abbrev st_l_row_text : Stmt := topS 49
theorem sc_l_row_text : FnScope ["_law_row_here", "_law_one"] ["_law_row_here"] (defScope st_l_row_text) := ⟨rfl, rfl, rfl, by decide +kernel, rfl, by decide +kernel, by decide +kernel⟩

abbrev st_l_tree_text : Stmt := topS 50
theorem sc_l_tree_text : FnScope ["_law_tree_here", "_law_parts", "_law_part", "_law_one"] ["_law_tree_here"] (defScope st_l_tree_text) := ⟨rfl, rfl, rfl, by decide +kernel, rfl, by decide +kernel, by decide +kernel⟩

abbrev st_l_whole : Stmt := topS 51
theorem sc_l_whole : FnScope ["_law_thing"] ["_law_thing"] (defScope st_l_whole) := ⟨rfl, rfl, rfl, by decide +kernel, rfl, by decide +kernel, by decide +kernel⟩

abbrev st_l_is_row : Stmt := topS 52
theorem sc_l_is_row : FnScope ["_law_thing", "_law_one", "_law_k"] ["_law_thing"] (defScope st_l_is_row) := ⟨rfl, rfl, rfl, by decide +kernel, rfl, by decide +kernel, by decide +kernel⟩

abbrev st_l_is_made : Stmt := topS 53
theorem sc_l_is_made : FnScope ["_law_thing", "_law_waiting", "_law_node"] ["_law_thing"] (defScope st_l_is_made) := ⟨rfl, rfl, rfl, by decide +kernel, rfl, by decide +kernel, by decide +kernel⟩

abbrev st_law : Stmt := topS 54
theorem sc_law : FnScope ["_law_script", "_law_seen", "_law_at", "_law_bag_here", "_law_row_here", "_law_tree_here", "_law_told", "_law_other"] ["_law_script"] (defScope st_law) := ⟨rfl, rfl, rfl, by decide +kernel, rfl, by decide +kernel, by decide +kernel⟩

def F_l_any_tree : FS := fun ds S Q => ∃ p c r k N, ∃ m : Nat, ds = [.ref p, .int m] ∧ 1 ≤ m ∧ m ≤ 40 ∧ S p = some (.lst (bagD c r k)) ∧ BagOk c r k N ∧ N + 20000 ≤ 2 ^ 40 ∧
  ∀ c' r' k' t, BagOk c' r' k' (N + 20000) → WfT t → sizeT t ≤ 40 → Q (treeD t) (ust S p (.lst (bagD c' r' k')))
def F_l_tree_text : Nat → FS
  | 0 => fun _ _ _ => False
  | n + 1 => fun ds S Q => ∃ t, ds = [treeD t] ∧ WfT t ∧ sizeT t ≤ n + 1 ∧ sizeT t ≤ 90 ∧ Q (.str (textT t)) S
def F_l_is_made : FS := fun ds S Q => ∃ t, ds = [treeD t] ∧ WfT t ∧ sizeT t ≤ 40 ∧ Q (.bl true) S

def T_l_any_tree : TSv := (tvSeq (tvIf (tvTest (tvOp rvGt (tvCall F_l_take (tvCons (tvVar 0) (tvCons (tvC (.int 4)) tvNil))) (tvC (.int 0))))
  (tvRet (tvCall (F_l_tree 41) (tvCons (tvVar 0) (tvCons (tvVar 1) (tvCons (tvC (.str "")) tvNil)))))
  tvNext)
  (tvSeq (tvSet 2 (tvCall F_l_greater (tvCons (tvVar 0) (tvCons (tvCall F_l_unbroken (tvCons (tvVar 0) (tvCons (tvC (.int 7)) tvNil))) tvNil))))
  (tvSeq (tvSet 3 (tvCall F_l_take (tvCons (tvVar 0) (tvCons (tvCB rvLen (tvCons (tvVar 2) tvNil)) tvNil))))
  (tvSeq (tvSet 4 (tvCall (F_l_tree 41) (tvCons (tvVar 0) (tvCons (tvOp rvAdd (tvC (.int 1)) (tvCall F_l_take (tvCons (tvVar 0) (tvCons (tvC (.int 8)) tvNil)))) (tvCons (tvC (.str "")) tvNil)))))
  (tvRet (tvTup (tvCons (tvC (.str "shape")) (tvCons (tvVar 2) (tvCons (tvOp rvAdd (tvOp rvAdd (tvOp rvRepT (tvTup (tvCons (tvTup (tvCons (tvC (.str "one")) tvNil)) tvNil)) (tvVar 3)) (tvTup (tvCons (tvVar 4) tvNil))) (tvOp rvRepT (tvTup (tvCons (tvTup (tvCons (tvC (.str "one")) tvNil)) tvNil)) (tvOp rvSub (tvOp rvSub (tvCB rvLen (tvCons (tvVar 2) tvNil)) (tvVar 3)) (tvC (.int 1))))) tvNil)))))))))

def T_l_tree_text (Fr : FS) : TSv := (tvSeq (tvIf (tvTest (tvOp rvEq (tvVar 0) (tvTup (tvCons (tvC (.str "one")) tvNil))))
  (tvRet (tvC (.str "1")))
  tvNext)
  (tvSeq (tvSet 1 (tvLc (tvSq (tvOp rvIx (tvVar 0) (tvUn rvNeg (tvC (.int 1))))) (.name 2) ttYes (tvCall Fr (tvCons (tvVar 2) tvNil)) [2]))
  (tvSeq (tvIf (tvTest (tvOp rvEq (tvOp rvIx (tvVar 0) (tvC (.int 0))) (tvC (.str "shape"))))
  (tvRet (tvOp rvAdd (tvOp rvAdd (tvOp rvAdd (tvBMr rcS rvJoin (tvC (.str ".")) (tvCons (tvLc (tvSq (tvOp rvIx (tvVar 0) (tvC (.int 1)))) (.name 3) ttYes (tvCB rvStr (tvCons (tvVar 3) tvNil)) [3]) tvNil)) (tvC (.str "["))) (tvBMr rcS rvJoin (tvC (.str " ")) (tvCons (tvVar 1) tvNil))) (tvC (.str "]"))))
  tvNext)
  (tvRet (tvOp rvAdd (tvOp rvAdd (tvC (.str "(")) (tvBMr rcS rvJoin (tvOp rvDix (tvDisp [((tvC (.str "rise")), (tvC (.str " + "))), ((tvC (.str "fall")), (tvC (.str " - ")))]) (tvOp rvIx (tvVar 0) (tvC (.int 0)))) (tvCons (tvVar 1) tvNil))) (tvC (.str ")")))))))

def T_l_is_made : TSv := (tvSeq (tvSet 1 (tvLstO (tvCons (tvVar 0) tvNil)))
  (tvSeq (tvWhile (tvTest (tvOp rvNe (tvVar 1) (tvLst tvNil)))
  (tvSeq (tvSet 2 (tvBMr rcL rvPop (tvVar 1) tvNil))
  (tvSeq (tvIf (tvOr (tvNot (tvTest (tvIsi isTup (tvVar 2)))) (tvOr (tvTest (tvOp rvEq (tvVar 2) (tvTup tvNil))) (tvNot (tvTest (tvIsi isStr (tvOp rvIx (tvVar 2) (tvC (.int 0))))))))
  (tvRet (tvC (.bl false)))
  tvNext)
  (tvSeq (tvIf (tvOr (tvAnd (tvTest (tvOp rvEq (tvCB rvLen (tvCons (tvVar 2) tvNil)) (tvC (.int 3)))) (tvNot (tvTest (tvCall F_l_is_row (tvCons (tvOp rvIx (tvVar 2) (tvC (.int 1))) tvNil))))) (tvAnd (tvTest (tvOp rvGt (tvCB rvLen (tvCons (tvVar 2) tvNil)) (tvC (.int 1)))) (tvNot (tvTest (tvIsi isTup (tvOp rvIx (tvVar 2) (tvUn rvNeg (tvC (.int 1)))))))))
  (tvRet (tvC (.bl false)))
  tvNext)
  (tvIf (tvTest (tvOp rvGt (tvCB rvLen (tvCons (tvVar 2) tvNil)) (tvC (.int 1))))
  (tvDrop (tvBMr rcL rvExt (tvVar 1) (tvCons (tvCB rvList (tvCons (tvOp rvIx (tvVar 2) (tvUn rvNeg (tvC (.int 1)))) tvNil)) tvNil)))
  tvNext)))))
  (tvRet (tvC (.bl true)))))

def T_law : TSv := (tvSeq (tvSet 1 (tvLst tvNil))
  (tvSeq (tvFor (tvRng1 (tvCons (tvCB (rvII fun i j => .int (if j > i then j else i)) (tvCons (tvC (.int 2)) (tvCons (tvCB (rvII fun i j => .int (if j < i then j else i)) (tvCons (tvC (.int 3)) (tvCons (tvCB rvLen (tvCons (tvVar 0) tvNil)) tvNil))) tvNil))) tvNil)) (.name 2)
  (tvSeq (tvSet 3 (tvCall F_l_bag (tvCons (tvVar 0) (tvCons (tvVar 2) tvNil))))
  (tvSeq (tvSet 4 (tvCall F_l_row (tvCons (tvVar 3) (tvCons (tvOp rvAdd (tvC (.int 1)) (tvCall F_l_take (tvCons (tvVar 3) (tvCons (tvOp rvIx (tvLst (tvCons (tvC (.int 16)) (tvCons (tvC (.int 40)) tvNil))) (tvCB (rvInt1 (fun i => .int i) fun k => .int (if k then 1 else 0)) (tvCons (tvOp rvEq (tvCall F_l_take (tvCons (tvVar 3) (tvCons (tvC (.int 4)) tvNil))) (tvC (.int 1))) tvNil))) tvNil)))) tvNil))))
  (tvSeq (tvSet 5 (tvCall F_l_any_tree (tvCons (tvVar 3) (tvCons (tvOp rvAdd (tvC (.int 1)) (tvCall F_l_take (tvCons (tvVar 3) (tvCons (tvOp rvIx (tvLst (tvCons (tvC (.int 16)) (tvCons (tvC (.int 40)) tvNil))) (tvCB (rvInt1 (fun i => .int i) fun k => .int (if k then 1 else 0)) (tvCons (tvOp rvEq (tvCall F_l_take (tvCons (tvVar 3) (tvCons (tvC (.int 4)) tvNil))) (tvC (.int 1))) tvNil))) tvNil)))) tvNil))))
  (tvSet 1 (tvOp rvAdd (tvVar 1) (tvLst (tvCons (tvTup (tvCons (tvVar 4) (tvCons (tvVar 5) tvNil))) (tvCons (tvTup (tvCons (tvVar 4) (tvCons (tvCall (F_p_tree_of 41) (tvCons (tvVar 4) tvNil)) tvNil))) tvNil)))))))))
  (tvSeq (tvFor (tvSq (tvOp rvAdd (tvVar 1) (tvRev (tvVar 1)))) (.tup [(.name 4), (.name 5)])
  (tvSeq (tvSet 6 (tvCall F_p_read_row (tvCons (tvCall F_l_row_text (tvCons (tvVar 4) tvNil)) tvNil)))
  (tvSeq (tvSet 7 (tvCall F_p_read_tree (tvCons (tvCall (F_l_tree_text 41) (tvCons (tvVar 5) tvNil)) tvNil)))
  (tvSeq (tvIf (tvOr (tvNot (tvTest (tvCall F_l_is_row (tvCons (tvVar 6) tvNil)))) (tvOr (tvTest (tvOp rvNe (tvVar 6) (tvVar 4))) (tvOr (tvNot (tvTest (tvCall F_l_is_made (tvCons (tvVar 7) tvNil)))) (tvTest (tvOp rvNe (tvVar 7) (tvVar 5))))))
  (tvRet (tvC (.bl false)))
  tvNext)
  (tvIf (tvOr (tvTest (tvOp rvNe (tvCall F_p_show_row (tvCons (tvVar 6) tvNil)) (tvCall F_l_row_text (tvCons (tvVar 4) tvNil)))) (tvTest (tvOp rvNe (tvCall (F_p_show_tree 41) (tvCons (tvVar 7) tvNil)) (tvCall (F_l_tree_text 41) (tvCons (tvVar 5) tvNil)))))
  (tvRet (tvC (.bl false)))
  tvNext)))))
  (tvRet (tvC (.bl true))))))

section
variable {P : Program} {w : World} {K : PySem.W.Frag} {mg : Str → Option Value} {base : Heap}

theorem d_p_is_whole (bt : Bt mg)   (cdv : Value) (A : Around) (outer : List Env) (s : Shared) (f : Addr) (H : Hp) (E : XK) (hr : Room 0 (A.deeper (envOfC "is_whole" (defScope st_p_is_whole) s.heap.objs.size f cdv))) :
    PSs (cxOf CX0 P w K mg base ["thing"] "is_whole" (defScope st_p_is_whole) f cdv A outer s H E).nox (defBody st_p_is_whole) (upS K (T_p_is_whole)) :=
  have hu := hu0 hr
  (s_one (s_ret (v_and (v_isi isf_int (by rfl) bt.isinstance (by rfl) bt.int boot_int (vv 0)) (v_one (v_not (v_isi isf_bool (by rfl) bt.isinstance (by rfl) bt.bool boot_bool (vv 0)))))))

theorem d_p_is_from (bt : Bt mg) (c_p_is_whole : Cal P w K mg base 1 "is_whole" ["thing"] F_p_is_whole)  (cdv : Value) (A : Around) (outer : List Env) (s : Shared) (f : Addr) (H : Hp) (E : XK) (hr : Room 1 (A.deeper (envOfC "is_from" (defScope st_p_is_from) s.heap.objs.size f cdv))) :
    PSs (cxOf CX0 P w K mg base ["thing", "least", "most"] "is_from" (defScope st_p_is_from) f cdv A outer s H E).nox (defBody st_p_is_from) (upS K (T_p_is_from)) :=
  have hu := hu0 hr
  (s_one (s_ret (v_and (v_cal (c_p_is_whole.mono (by omega)) hr (a_cons (vv 0) a_nil)) (v_one (v_chain o_le o_le (vv 1) (vv 0) (vv 2))))))

theorem d_p_is_row (bt : Bt mg) (c_p_is_whole : Cal P w K mg base 1 "is_whole" ["thing"] F_p_is_whole) (g_MOST : ∃ t, mg "MOST" = some (.int 40 t))  (cdv : Value) (A : Around) (outer : List Env) (s : Shared) (f : Addr) (H : Hp) (E : XK) (hr : Room 1 (A.deeper (envOfC "is_row" (defScope st_p_is_row) s.heap.objs.size f cdv))) :
    PSs (cxOf CX0 P w K mg base ["thing", "one"] "is_row" (defScope st_p_is_row) f cdv A outer s H E).nox (defBody st_p_is_row) (upS K (T_p_is_row)) :=
  have hu := hu0 hr
  (s_cons (s_if (PW.pt (w_or (t_not (t_val (v_isi isf_tuple (by rfl) bt.isinstance (by rfl) bt.tuple boot_tuple (vv 0)))) (w_or1 (t_not (t_chain o_le o_le v_int (v_callB c_len (by rfl) bt.len boot_len (a_cons (vv 0) a_nil)) (v_gint g_MOST))))))
  (s_one (s_ret v_bl))
  s_nil)
  (s_one (s_ret (v_and (v_callB (c_all rfl) (by rfl) bt.all boot_all (a_cons (v_lc (t := (.name 1)) (own := [("one", 1)]) rfl sc_p_is_row.nd (i_seq (vv 0)) (blkOk_by (N := ["thing", "one"]) (sc := defScope st_p_is_row) (by decide +kernel)) (fun _ _ _ _ _ => (g_name (i := 1) sc_p_is_row.nd)) (fun _ _ _ _ _ => ts_nil) (fun _ _ _ _ _ => (v_cal (c_p_is_whole.mono (by omega)) hr (a_cons (vv 1) a_nil)))) a_nil)) (v_one (v_cmp (o_eq hu) (v_callB (c_sort hu) (by rfl) bt.sorted boot_sorted (a_cons (vv 0) a_nil)) (v_rgL rfl (by rfl) bt.list (by rfl) bt.range v_int (v_op o_add (v_callB c_len (by rfl) bt.len boot_len (a_cons (vv 0) a_nil)) v_int)) (nomark _)))))))

theorem d_p_closed_up (bt : Bt mg)   (cdv : Value) (A : Around) (outer : List Env) (s : Shared) (f : Addr) (H : Hp) (E : XK) (hr : Room 0 (A.deeper (envOfC "closed_up" (defScope st_p_closed_up) s.heap.objs.size f cdv))) :
    PSs (cxOf CX0 P w K mg base ["numbers", "order", "one"] "closed_up" (defScope st_p_closed_up) f cdv A outer s H E).nox (defBody st_p_closed_up) (upS K (T_p_closed_up)) :=
  have hu := hu0 hr
  (s_cons (s_set (i := 1) sc_p_closed_up.nd rfl (.inr rfl) (v_callB (c_sort hu) (by rfl) bt.sorted boot_sorted (a_cons (vv 0) a_nil)))
  (s_one (s_ret (v_callTy c_tuple (by rfl) bt.tuple boot_tuple (a_cons (v_lc (t := (.name 2)) (own := [("one", 2)]) rfl sc_p_closed_up.nd (i_seq (vv 0)) (blkOk_by (N := ["numbers", "order", "one"]) (sc := defScope st_p_closed_up) (by decide +kernel)) (fun _ _ _ _ _ => (g_name (i := 2) sc_p_closed_up.nd)) (fun _ _ _ _ _ => ts_nil) (fun _ _ _ _ _ => (v_op o_add (v_bm PySem.F.plainAttrs_list PySem.F.slot_list_index PySem.F.type_list_index rcL_ok (m_index hu) (vv 1) (a_cons (vv 2) a_nil)) v_int))) a_nil)))))

theorem d_p_are_places (bt : Bt mg) (c_p_is_from : Cal P w K mg base 2 "is_from" ["thing", "least", "most"] F_p_is_from)  (cdv : Value) (A : Around) (outer : List Env) (s : Shared) (f : Addr) (H : Hp) (E : XK) (hr : Room 2 (A.deeper (envOfC "are_places" (defScope st_p_are_places) s.heap.objs.size f cdv))) :
    PSs (cxOf CX0 P w K mg base ["row", "thing", "one", "other"] "are_places" (defScope st_p_are_places) f cdv A outer s H E).nox (defBody st_p_are_places) (upS K (T_p_are_places)) :=
  have hu := hu0 hr
  (s_cons (s_if (PW.pt (w_or (t_not (t_val (v_isi isf_tuple (by rfl) bt.isinstance (by rfl) bt.tuple boot_tuple (vv 1)))) (w_or (t_cmp (o_eq hu) (vv 1) (v_tup a_nil) (nomark _)) (w_or1 (t_not (t_val (v_callB (c_all rfl) (by rfl) bt.all boot_all (a_cons (v_lc (t := (.name 2)) (own := [("one", 2)]) rfl sc_p_are_places.nd (i_seq (vv 1)) (blkOk_by (N := ["row", "thing", "one", "other"]) (sc := defScope st_p_are_places) (by decide +kernel)) (fun _ _ _ _ _ => (g_name (i := 2) sc_p_are_places.nd)) (fun _ _ _ _ _ => ts_nil) (fun _ _ _ _ _ => (v_cal (c_p_is_from.mono (by omega)) hr (a_cons (vv 2) (a_cons v_int (a_cons (v_op o_sub (v_callB c_len (by rfl) bt.len boot_len (a_cons (vv 0) a_nil)) v_int) a_nil)))))) a_nil))))))))
  (s_one (s_ret v_bl))
  s_nil)
  (s_one (s_ret (v_callB (c_all rfl) (by rfl) bt.all boot_all (a_cons (v_lc (t := (.tup [(.name 2), (.name 3)])) (own := [("one", 2), ("other", 3)]) rfl sc_p_are_places.nd (i_zip (by rfl) bt.zip (a_cons (vv 1) (a_cons (v_sl (vv 1) (p_some v_int) p_none) a_nil))) (blkOk_by (N := ["row", "thing", "one", "other"]) (sc := defScope st_p_are_places) (by decide +kernel)) (fun _ _ _ _ _ => (g_tup rfl (gs_cons (g_name (i := 2) sc_p_are_places.nd) (gs_cons (g_name (i := 3) sc_p_are_places.nd) gs_nil)))) (fun _ _ _ _ _ => ts_nil) (fun _ _ _ _ _ => (v_cmp o_lt (vv 2) (vv 3) (nomark _)))) a_nil)))))

theorem d_p_shape_at (bt : Bt mg) (c_p_closed_up : Cal P w K mg base 1 "closed_up" ["numbers"] F_p_closed_up) (c_p_are_places : Cal P w K mg base 3 "are_places" ["row", "thing"] F_p_are_places)  (cdv : Value) (A : Around) (outer : List Env) (s : Shared) (f : Addr) (H : Hp) (E : XK) (hr : Room 3 (A.deeper (envOfC "shape_at" (defScope st_p_shape_at) s.heap.objs.size f cdv))) :
    PSs (cxOf CX0 P w K mg base ["row", "places", "place"] "shape_at" (defScope st_p_shape_at) f cdv A outer s H E).nox (defBody st_p_shape_at) (upS K (T_p_shape_at)) :=
  have hu := hu0 hr
  (s_cons (s_if (t_not (t_val (v_cal (c_p_are_places.mono (by omega)) hr (a_cons (vv 0) (a_cons (vv 1) a_nil)))))
  (s_one s_never)
  s_nil)
  (s_one (s_ret (v_cal (c_p_closed_up.mono (by omega)) hr (a_cons (v_lc (t := (.name 2)) (own := [("place", 2)]) rfl sc_p_shape_at.nd (i_seq (vv 1)) (blkOk_by (N := ["row", "places", "place"]) (sc := defScope st_p_shape_at) (by decide +kernel)) (fun _ _ _ _ _ => (g_name (i := 2) sc_p_shape_at.nd)) (fun _ _ _ _ _ => ts_nil) (fun _ _ _ _ _ => (v_ix (vv 0) (vv 2)))) a_nil)))))

theorem d_p_whole_ends (bt : Bt mg)   (cdv : Value) (A : Around) (outer : List Env) (s : Shared) (f : Addr) (H : Hp) (E : XK) (hr : Room 0 (A.deeper (envOfC "whole_ends" (defScope st_p_whole_ends) s.heap.objs.size f cdv))) :
    PSs (cxOf CX0 P w K mg base ["row", "begin", "found", "low", "high", "end"] "whole_ends" (defScope st_p_whole_ends) f cdv A outer s H E).nox (defBody st_p_whole_ends) (upS K (T_p_whole_ends)) :=
  have hu := hu0 hr
  (s_cons (s_set (i := 2) sc_p_whole_ends.nd rfl (.inl rfl) (v_lstO a_nil))
  (s_cons (s_set (i := 3) sc_p_whole_ends.nd rfl (.inl rfl) (v_ix (vv 0) (vv 1)))
  (s_cons (s_set (i := 4) sc_p_whole_ends.nd rfl (.inl rfl) (v_ix (vv 0) (vv 1)))
  (s_cons (s_for (t := (.name 5)) PassesOwn.never rfl (i_rng2 (by rfl) bt.range (a_cons (v_op o_add (vv 1) v_int) (a_cons (v_op o_add (v_callB c_len (by rfl) bt.len boot_len (a_cons (vv 0) a_nil)) v_int) a_nil))) (g_name (i := 5) sc_p_whole_ends.nd)
  (s_cons (s_set (i := 3) sc_p_whole_ends.nd rfl (.inl rfl) (v_callB (c_min2 rfl) (by rfl) bt.min boot_min (a_cons (vv 3) (a_cons (v_ix (vv 0) (v_op o_sub (vv 5) v_int)) a_nil))))
  (s_cons (s_set (i := 4) sc_p_whole_ends.nd rfl (.inl rfl) (v_callB (c_max2 rfl) (by rfl) bt.max boot_max (a_cons (vv 4) (a_cons (v_ix (vv 0) (v_op o_sub (vv 5) v_int)) a_nil))))
  (s_one (s_if (t_cmp (o_eq hu) (v_op o_sub (vv 4) (vv 3)) (v_op o_sub (v_op o_sub (vv 5) (vv 1)) v_int) (nomark _))
  (s_one (s_expr (v_bm PySem.F.plainAttrs_list PySem.F.slot_list_append PySem.F.type_list_append rcL_ok m_app (vv 2) (a_cons (vv 5) a_nil))))
  s_nil)))))
  (s_one (s_ret (vv 2)))))))

theorem d_p_whole_stretches (bt : Bt mg) (c_p_whole_ends : Cal P w K mg base 1 "whole_ends" ["row", "begin"] F_p_whole_ends)  (cdv : Value) (A : Around) (outer : List Env) (s : Shared) (f : Addr) (H : Hp) (E : XK) (hr : Room 1 (A.deeper (envOfC "whole_stretches" (defScope st_p_whole_stretches) s.heap.objs.size f cdv))) :
    PSs (cxOf CX0 P w K mg base ["row", "found", "begin", "end"] "whole_stretches" (defScope st_p_whole_stretches) f cdv A outer s H E).nox (defBody st_p_whole_stretches) (upS K (T_p_whole_stretches)) :=
  have hu := hu0 hr
  (s_cons (s_set (i := 1) sc_p_whole_stretches.nd rfl (.inl rfl) (v_lstO a_nil))
  (s_cons (s_for (t := (.name 2)) PassesOwn.never rfl (i_rng1 (by rfl) bt.range (a_cons (v_callB c_len (by rfl) bt.len boot_len (a_cons (vv 0) a_nil)) a_nil)) (g_name (i := 2) sc_p_whole_stretches.nd)
  (s_one (s_expr (v_bm PySem.F.plainAttrs_list PySem.F.slot_list_extend PySem.F.type_list_extend rcL_ok m_ext (vv 1) (a_cons (v_lc (t := (.name 3)) (own := [("end", 3)]) rfl sc_p_whole_stretches.nd (i_seq (v_cal (c_p_whole_ends.mono (by omega)) hr (a_cons (vv 0) (a_cons (vv 2) a_nil)))) (blkOk_by (N := ["row", "found", "begin", "end"]) (sc := defScope st_p_whole_stretches) (by decide +kernel)) (fun _ _ _ _ _ => (g_name (i := 3) sc_p_whole_stretches.nd)) (fun _ _ _ _ _ => ts_nil) (fun _ _ _ _ _ => (v_tup (a_cons (vv 2) (a_cons (vv 3) a_nil))))) a_nil)))))
  (s_one (s_ret (vv 1)))))

theorem d_p_is_unbroken (bt : Bt mg) (c_p_whole_stretches : Cal P w K mg base 2 "whole_stretches" ["row"] F_p_whole_stretches) (c_p_is_row : Cal P w K mg base 2 "is_row" ["thing"] F_p_is_row)  (cdv : Value) (A : Around) (outer : List Env) (s : Shared) (f : Addr) (H : Hp) (E : XK) (hr : Room 2 (A.deeper (envOfC "is_unbroken" (defScope st_p_is_unbroken) s.heap.objs.size f cdv))) :
    PSs (cxOf CX0 P w K mg base ["thing"] "is_unbroken" (defScope st_p_is_unbroken) f cdv A outer s H E).nox (defBody st_p_is_unbroken) (upS K (T_p_is_unbroken)) :=
  have hu := hu0 hr
  (s_one (s_ret (v_and (v_cal (c_p_is_row.mono (by omega)) hr (a_cons (vv 0) a_nil)) (v_and (v_cmp o_gt (v_callB c_len (by rfl) bt.len boot_len (a_cons (vv 0) a_nil)) v_int (nomark _)) (v_one (v_cmp (o_eq hu) (v_cal (c_p_whole_stretches.mono (by omega)) hr (a_cons (vv 0) a_nil)) (v_lst (a_cons (v_tup (a_cons v_int (a_cons (v_callB c_len (by rfl) bt.len boot_len (a_cons (vv 0) a_nil)) a_nil))) a_nil)) (nomark _)))))))

theorem d_p_has_parts (bt : Bt mg)   (cdv : Value) (A : Around) (outer : List Env) (s : Shared) (f : Addr) (H : Hp) (E : XK) (hr : Room 0 (A.deeper (envOfC "has_parts" (defScope st_p_has_parts) s.heap.objs.size f cdv))) :
    PSs (cxOf CX0 P w K mg base ["thing", "many"] "has_parts" (defScope st_p_has_parts) f cdv A outer s H E).nox (defBody st_p_has_parts) (upS K (T_p_has_parts)) :=
  have hu := hu0 hr
  (s_cons (s_if (t_not (t_val (v_isi isf_tuple (by rfl) bt.isinstance (by rfl) bt.tuple boot_tuple (v_ix (vv 0) (v_un u_neg v_int)))))
  (s_one (s_ret v_bl))
  s_nil)
  (s_one (s_ret (v_ifE (t_cmp o_gt (vv 1) v_int (nomark _)) (v_cmp (o_eq hu) (v_callB c_len (by rfl) bt.len boot_len (a_cons (v_ix (vv 0) (v_un u_neg v_int)) a_nil)) (vv 1) (nomark _)) (v_cmp o_gt (v_callB c_len (by rfl) bt.len boot_len (a_cons (v_ix (vv 0) (v_un u_neg v_int)) a_nil)) v_int (nomark _))))))

theorem d_p_is_node (bt : Bt mg) (c_p_has_parts : Cal P w K mg base 1 "has_parts" ["thing", "many"] F_p_has_parts) (c_p_is_unbroken : Cal P w K mg base 3 "is_unbroken" ["thing"] F_p_is_unbroken) (g_RUNS : ∃ a vs, mg "RUNS" = some (.ref a) ∧ KT K a vs ∧ ∀ H S Z, Rps K H S Z [.str "rise", .str "fall"] vs)  (cdv : Value) (A : Around) (outer : List Env) (s : Shared) (f : Addr) (H : Hp) (E : XK) (hr : Room 3 (A.deeper (envOfC "is_node" (defScope st_p_is_node) s.heap.objs.size f cdv))) :
    PSs (cxOf CX0 P w K mg base ["thing", "part"] "is_node" (defScope st_p_is_node) f cdv A outer s H E).nox (defBody st_p_is_node) (upS K (T_p_is_node)) :=
  have hu := hu0 hr
  (s_cons (s_if (PW.pt (w_or (t_not (t_val (v_isi isf_tuple (by rfl) bt.isinstance (by rfl) bt.tuple boot_tuple (vv 0)))) (w_or (t_cmp o_lt (v_callB c_len (by rfl) bt.len boot_len (a_cons (vv 0) a_nil)) v_int (nomark _)) (w_or1 (t_not (t_val (v_isi isf_str (by rfl) bt.isinstance (by rfl) bt.str boot_str (v_ix (vv 0) v_int))))))))
  (s_one (s_ret v_bl))
  s_nil)
  (s_cons (s_if (t_cmp (o_eq hu) (v_ix (vv 0) v_int) v_str (nomark _))
  (s_one (s_ret (v_and (v_cmp (o_eq hu) (v_callB c_len (by rfl) bt.len boot_len (a_cons (vv 0) a_nil)) v_int (nomark _)) (v_and (v_cal (c_p_is_unbroken.mono (by omega)) hr (a_cons (v_ix (vv 0) v_int) a_nil)) (v_one (v_cal (c_p_has_parts.mono (by omega)) hr (a_cons (vv 0) (a_cons (v_callB c_len (by rfl) bt.len boot_len (a_cons (v_ix (vv 0) v_int) a_nil)) a_nil))))))))
  s_nil)
  (s_cons (s_if (PW.pt (w_or (t_cmp (o_notin hu) (v_ix (vv 0) v_int) (v_gtup g_RUNS) (by rfl)) (w_or (t_cmp (o_ne hu) (v_callB c_len (by rfl) bt.len boot_len (a_cons (vv 0) a_nil)) v_int (nomark _)) (w_or1 (t_not (t_val (v_cal (c_p_has_parts.mono (by omega)) hr (a_cons (vv 0) (a_cons v_int a_nil)))))))))
  (s_one (s_ret v_bl))
  s_nil)
  (s_one (s_ret (v_not (v_callB (c_any rfl) (by rfl) bt.any boot_any (a_cons (v_lc (t := (.name 1)) (own := [("part", 1)]) rfl sc_p_is_node.nd (i_seq (v_ix (vv 0) v_int)) (blkOk_by (N := ["thing", "part"]) (sc := defScope st_p_is_node) (by decide +kernel)) (fun _ _ _ _ _ => (g_name (i := 1) sc_p_is_node.nd)) (fun _ _ _ _ _ => ts_nil) (fun _ _ _ _ _ => (v_and (v_isi isf_tuple (by rfl) bt.isinstance (by rfl) bt.tuple boot_tuple (vv 1)) (v_one (v_cmp (o_eq hu) (v_sl (vv 1) p_none (p_some v_int)) (v_sl (vv 0) p_none (p_some v_int)) (nomark _)))))) a_nil))))))))

theorem d_p_size_of (bt : Bt mg) (c_p_is_node : Cal P w K mg base 4 "is_node" ["thing"] F_p_is_node) (g_ONE : ∃ a vs, mg "ONE" = some (.ref a) ∧ KT K a vs ∧ ∀ H S Z, Rps K H S Z [.str "one"] vs) {n : Nat} {Fr : FS} (c_p_size_of : Cal P w K mg base (5 + n) "size_of" ["thing"] Fr) (cdv : Value) (A : Around) (outer : List Env) (s : Shared) (f : Addr) (H : Hp) (E : XK) (hr : Room (5 + n) (A.deeper (envOfC "size_of" (defScope st_p_size_of) s.heap.objs.size f cdv))) :
    PSs (cxOf CX0 P w K mg base ["thing", "sizes", "part"] "size_of" (defScope st_p_size_of) f cdv A outer s H E).nox (defBody st_p_size_of) (upS K (T_p_size_of Fr)) :=
  have hu := hu0 hr
  (s_cons (s_if (t_cmp (o_eq hu) (vv 0) (v_gtup g_ONE) (nomark _))
  (s_one (s_ret v_int))
  s_nil)
  (s_cons (s_if (t_not (t_val (v_cal (c_p_is_node.mono (by omega)) hr (a_cons (vv 0) a_nil))))
  (s_one (s_ret v_int))
  s_nil)
  (s_cons (s_setLc (i := 1) (t := (.name 2)) (own := [("part", 2)]) rfl sc_p_size_of.nd rfl rfl (sw_true rfl rfl rfl (by decide +kernel)) (i_seq (v_ix (vv 0) (v_un u_neg v_int))) (blkOk_by (N := ["thing", "sizes", "part"]) (sc := defScope st_p_size_of) (by decide +kernel)) (fun _ _ _ _ _ => (g_name (i := 2) sc_p_size_of.nd)) (fun _ _ _ _ _ => ts_nil) (fun _ _ _ _ _ => (v_cal c_p_size_of hr (a_cons (vv 2) a_nil))))
  (s_one (s_ret (v_ifE (t_cmp (o_in hu) v_int (vv 1) (by rfl)) v_int (v_callB (c_sum rfl) (by rfl) bt.sum boot_sum (a_cons (vv 1) a_nil))))))))

theorem d_p_is_tree (bt : Bt mg) (c_p_size_of : Cal P w K mg base 106 "size_of" ["thing"] (F_p_size_of 101)) (g_MOST : ∃ t, mg "MOST" = some (.int 40 t))  (cdv : Value) (A : Around) (outer : List Env) (s : Shared) (f : Addr) (H : Hp) (E : XK) (hr : Room 106 (A.deeper (envOfC "is_tree" (defScope st_p_is_tree) s.heap.objs.size f cdv))) :
    PSs (cxOf CX0 P w K mg base ["thing"] "is_tree" (defScope st_p_is_tree) f cdv A outer s H E).nox (defBody st_p_is_tree) (upS K (T_p_is_tree)) :=
  have hu := hu0 hr
  (s_one (s_ret (v_chain o_le o_le v_int (v_cal (c_p_size_of.mono (by omega)) hr (a_cons (vv 0) a_nil)) (v_gint g_MOST))))

theorem d_p_rise_cuts (bt : Bt mg)   (cdv : Value) (A : Around) (outer : List Env) (s : Shared) (f : Addr) (H : Hp) (E : XK) (hr : Room 0 (A.deeper (envOfC "rise_cuts" (defScope st_p_rise_cuts) s.heap.objs.size f cdv))) :
    PSs (cxOf CX0 P w K mg base ["row", "found", "high", "place", "one"] "rise_cuts" (defScope st_p_rise_cuts) f cdv A outer s H E).nox (defBody st_p_rise_cuts) (upS K (T_p_rise_cuts)) :=
  have hu := hu0 hr
  (s_cons (s_set (i := 1) sc_p_rise_cuts.nd rfl (.inl rfl) (v_lstO (a_cons v_int a_nil)))
  (s_cons (s_set (i := 2) sc_p_rise_cuts.nd rfl (.inl rfl) v_int)
  (s_cons (s_for (t := (.tup [(.name 3), (.name 4)])) PassesOwn.never rfl (i_enum (by rfl) bt.enumerate (a_cons (vv 0) a_nil)) (g_tup rfl (gs_cons (g_name (i := 3) sc_p_rise_cuts.nd) (gs_cons (g_name (i := 4) sc_p_rise_cuts.nd) gs_nil)))
  (s_cons (s_set (i := 2) sc_p_rise_cuts.nd rfl (.inl rfl) (v_callB (c_max2 rfl) (by rfl) bt.max boot_max (a_cons (vv 2) (a_cons (vv 4) a_nil))))
  (s_one (s_if (t_cmp (o_eq hu) (vv 2) (v_op o_add (vv 3) v_int) (nomark _))
  (s_one (s_expr (v_bm PySem.F.plainAttrs_list PySem.F.slot_list_append PySem.F.type_list_append rcL_ok m_app (vv 1) (a_cons (v_op o_add (vv 3) v_int) a_nil))))
  s_nil))))
  (s_one (s_ret (vv 1))))))

theorem d_p_block_cuts (bt : Bt mg) (c_p_whole_ends : Cal P w K mg base 1 "whole_ends" ["row", "begin"] F_p_whole_ends)  (cdv : Value) (A : Around) (outer : List Env) (s : Shared) (f : Addr) (H : Hp) (E : XK) (hr : Room 1 (A.deeper (envOfC "block_cuts" (defScope st_p_block_cuts) s.heap.objs.size f cdv))) :
    PSs (cxOf CX0 P w K mg base ["row", "found", "ends", "end"] "block_cuts" (defScope st_p_block_cuts) f cdv A outer s H E).nox (defBody st_p_block_cuts) (upS K (T_p_block_cuts)) :=
  have hu := hu0 hr
  (s_cons (s_set (i := 1) sc_p_block_cuts.nd rfl (.inr rfl) (v_lstO (a_cons v_int a_nil)))
  (s_cons (s_while PassesOwn.never (t_cmp o_lt (v_ix (vv 1) (v_un u_neg v_int)) (v_callB c_len (by rfl) bt.len boot_len (a_cons (vv 0) a_nil)) (nomark _))
  (s_cons (s_setLc (i := 2) (t := (.name 3)) (own := [("end", 3)]) rfl sc_p_block_cuts.nd rfl rfl (sw_true rfl rfl rfl (by decide +kernel)) (i_seq (v_cal (c_p_whole_ends.mono (by omega)) hr (a_cons (vv 0) (a_cons (v_ix (vv 1) (v_un u_neg v_int)) a_nil)))) (blkOk_by (N := ["row", "found", "ends", "end"]) (sc := defScope st_p_block_cuts) (by decide +kernel)) (fun _ _ _ _ _ => (g_name (i := 3) sc_p_block_cuts.nd)) (fun _ _ _ _ _ => ts_one (t_cmp o_lt (v_op o_sub (vv 3) (v_ix (vv 1) (v_un u_neg v_int))) (v_callB c_len (by rfl) bt.len boot_len (a_cons (vv 0) a_nil)) (nomark _))) (fun _ _ _ _ _ => (vv 3)))
  (s_one (s_expr (v_bm PySem.F.plainAttrs_list PySem.F.slot_list_append PySem.F.type_list_append rcL_ok m_app (vv 1) (a_cons (v_callB (mx_run rfl hu) (by rfl) bt.max boot_max (a_cons (v_op o_add (v_lst (a_cons (v_op o_add (v_ix (vv 1) (v_un u_neg v_int)) v_int) a_nil)) (vv 2)) a_nil)) a_nil))))))
  (s_one (s_ret (vv 1)))))

theorem d_p_parted (bt : Bt mg) (c_p_closed_up : Cal P w K mg base 1 "closed_up" ["numbers"] F_p_closed_up)  (cdv : Value) (A : Around) (outer : List Env) (s : Shared) (f : Addr) (H : Hp) (E : XK) (hr : Room 1 (A.deeper (envOfC "parted" (defScope st_p_parted) s.heap.objs.size f cdv))) :
    PSs (cxOf CX0 P w K mg base ["row", "cuts", "begin", "end"] "parted" (defScope st_p_parted) f cdv A outer s H E).nox (defBody st_p_parted) (upS K (T_p_parted)) :=
  have hu := hu0 hr
  (s_one (s_ret (v_lc (t := (.tup [(.name 2), (.name 3)])) (own := [("begin", 2), ("end", 3)]) rfl sc_p_parted.nd (i_zip (by rfl) bt.zip (a_cons (vv 1) (a_cons (v_sl (vv 1) (p_some v_int) p_none) a_nil))) (blkOk_by (N := ["row", "cuts", "begin", "end"]) (sc := defScope st_p_parted) (by decide +kernel)) (fun _ _ _ _ _ => (g_tup rfl (gs_cons (g_name (i := 2) sc_p_parted.nd) (gs_cons (g_name (i := 3) sc_p_parted.nd) gs_nil)))) (fun _ _ _ _ _ => ts_nil) (fun _ _ _ _ _ => (v_cal (c_p_closed_up.mono (by omega)) hr (a_cons (v_sl (vv 0) (p_some (vv 2)) (p_some (vv 3))) a_nil))))))

theorem d_p_tree_of (bt : Bt mg) (c_p_parted : Cal P w K mg base 2 "parted" ["row", "cuts"] F_p_parted) (c_p_shape_at : Cal P w K mg base 4 "shape_at" ["row", "places"] F_p_shape_at) (c_p_block_cuts : Cal P w K mg base 2 "block_cuts" ["row"] F_p_block_cuts) (c_p_rise_cuts : Cal P w K mg base 1 "rise_cuts" ["row"] F_p_rise_cuts) (g_ONE : ∃ a vs, mg "ONE" = some (.ref a) ∧ KT K a vs ∧ ∀ H S Z, Rps K H S Z [.str "one"] vs) {n : Nat} {Fr : FS} (c_p_tree_of : Cal P w K mg base (5 + n) "tree_of" ["row"] Fr) (cdv : Value) (A : Around) (outer : List Env) (s : Shared) (f : Addr) (H : Hp) (E : XK) (hr : Room (5 + n) (A.deeper (envOfC "tree_of" (defScope st_p_tree_of) s.heap.objs.size f cdv))) :
    PSs (cxOf CX0 P w K mg base ["row", "cuts", "part", "one"] "tree_of" (defScope st_p_tree_of) f cdv A outer s H E).nox (defBody st_p_tree_of) (upS K (T_p_tree_of Fr)) :=
  have hu := hu0 hr
  (s_cons (s_if (t_cmp (o_eq hu) (v_callB c_len (by rfl) bt.len boot_len (a_cons (vv 0) a_nil)) v_int (nomark _))
  (s_one (s_ret (v_gtup g_ONE)))
  s_nil)
  (s_cons (s_set (i := 1) sc_p_tree_of.nd rfl (.inl rfl) (v_cal (c_p_rise_cuts.mono (by omega)) hr (a_cons (vv 0) a_nil)))
  (s_cons (s_if (t_cmp o_gt (v_callB c_len (by rfl) bt.len boot_len (a_cons (vv 1) a_nil)) v_int (nomark _))
  (s_one (s_ret (v_tup (a_cons v_str (a_cons (v_callTy c_tuple (by rfl) bt.tuple boot_tuple (a_cons (v_lc (t := (.name 2)) (own := [("part", 2)]) rfl sc_p_tree_of.nd (i_seq (v_cal (c_p_parted.mono (by omega)) hr (a_cons (vv 0) (a_cons (vv 1) a_nil)))) (blkOk_by (N := ["row", "cuts", "part", "one"]) (sc := defScope st_p_tree_of) (by decide +kernel)) (fun _ _ _ _ _ => (g_name (i := 2) sc_p_tree_of.nd)) (fun _ _ _ _ _ => ts_nil) (fun _ _ _ _ _ => (v_cal c_p_tree_of hr (a_cons (vv 2) a_nil)))) a_nil)) a_nil)))))
  s_nil)
  (s_cons (s_set (i := 1) sc_p_tree_of.nd rfl (.inl rfl) (v_cal (c_p_rise_cuts.mono (by omega)) hr (a_cons (v_lc (t := (.name 3)) (own := [("one", 3)]) rfl sc_p_tree_of.nd (i_seq (vv 0)) (blkOk_by (N := ["row", "cuts", "part", "one"]) (sc := defScope st_p_tree_of) (by decide +kernel)) (fun _ _ _ _ _ => (g_name (i := 3) sc_p_tree_of.nd)) (fun _ _ _ _ _ => ts_nil) (fun _ _ _ _ _ => (v_op o_sub (v_op o_add (v_callB c_len (by rfl) bt.len boot_len (a_cons (vv 0) a_nil)) v_int) (vv 3)))) a_nil)))
  (s_cons (s_if (t_cmp o_gt (v_callB c_len (by rfl) bt.len boot_len (a_cons (vv 1) a_nil)) v_int (nomark _))
  (s_one (s_ret (v_tup (a_cons v_str (a_cons (v_callTy c_tuple (by rfl) bt.tuple boot_tuple (a_cons (v_lc (t := (.name 2)) (own := [("part", 2)]) rfl sc_p_tree_of.nd (i_seq (v_cal (c_p_parted.mono (by omega)) hr (a_cons (vv 0) (a_cons (vv 1) a_nil)))) (blkOk_by (N := ["row", "cuts", "part", "one"]) (sc := defScope st_p_tree_of) (by decide +kernel)) (fun _ _ _ _ _ => (g_name (i := 2) sc_p_tree_of.nd)) (fun _ _ _ _ _ => ts_nil) (fun _ _ _ _ _ => (v_cal c_p_tree_of hr (a_cons (vv 2) a_nil)))) a_nil)) a_nil)))))
  s_nil)
  (s_cons (s_set (i := 1) sc_p_tree_of.nd rfl (.inl rfl) (v_cal (c_p_block_cuts.mono (by omega)) hr (a_cons (vv 0) a_nil)))
  (s_one (s_ret (v_tup (a_cons v_str (a_cons (v_cal (c_p_shape_at.mono (by omega)) hr (a_cons (vv 0) (a_cons (v_callTy c_tuple (by rfl) bt.tuple boot_tuple (a_cons (v_sl (vv 1) p_none (p_some (v_un u_neg v_int))) a_nil)) a_nil))) (a_cons (v_callTy c_tuple (by rfl) bt.tuple boot_tuple (a_cons (v_lc (t := (.name 2)) (own := [("part", 2)]) rfl sc_p_tree_of.nd (i_seq (v_cal (c_p_parted.mono (by omega)) hr (a_cons (vv 0) (a_cons (vv 1) a_nil)))) (blkOk_by (N := ["row", "cuts", "part", "one"]) (sc := defScope st_p_tree_of) (by decide +kernel)) (fun _ _ _ _ _ => (g_name (i := 2) sc_p_tree_of.nd)) (fun _ _ _ _ _ => ts_nil) (fun _ _ _ _ _ => (v_cal c_p_tree_of hr (a_cons (vv 2) a_nil)))) a_nil)) a_nil))))))))))))

theorem d_p_must_be (bt : Bt mg)   (cdv : Value) (A : Around) (outer : List Env) (s : Shared) (f : Addr) (H : Hp) (E : XK) (hr : Room 0 (A.deeper (envOfC "must_be" (defScope st_p_must_be) s.heap.objs.size f cdv))) :
    PSs (cxOf CX0 P w K mg base ["truth"] "must_be" (defScope st_p_must_be) f cdv A outer s H E).nox (defBody st_p_must_be) (upS K (T_p_must_be)) :=
  have hu := hu0 hr
  (s_one (s_if (t_not (t_val (vv 0)))
  (s_one s_never)
  s_nil))

theorem d_p_show_row (bt : Bt mg)   (cdv : Value) (A : Around) (outer : List Env) (s : Shared) (f : Addr) (H : Hp) (E : XK) (hr : Room 0 (A.deeper (envOfC "show_row" (defScope st_p_show_row) s.heap.objs.size f cdv))) :
    PSs (cxOf CX0 P w K mg base ["row", "one"] "show_row" (defScope st_p_show_row) f cdv A outer s H E).nox (defBody st_p_show_row) (upS K (T_p_show_row)) :=
  have hu := hu0 hr
  (s_one (s_ret (v_bm PySem.F.plainAttrs_str PySem.F.slot_str_join PySem.F.type_str_join rcS_ok m_join v_str (a_cons (v_lc (t := (.name 1)) (own := [("one", 1)]) rfl sc_p_show_row.nd (i_seq (vv 0)) (blkOk_by (N := ["row", "one"]) (sc := defScope st_p_show_row) (by decide +kernel)) (fun _ _ _ _ _ => (g_name (i := 1) sc_p_show_row.nd)) (fun _ _ _ _ _ => ts_nil) (fun _ _ _ _ _ => (v_callTy c_str (by rfl) bt.str boot_str (a_cons (vv 1) a_nil)))) a_nil))))

theorem d_p_show_tree (bt : Bt mg) (g_ONE : ∃ a vs, mg "ONE" = some (.ref a) ∧ KT K a vs ∧ ∀ H S Z, Rps K H S Z [.str "one"] vs) (g_LINKS : ∃ d, mg "LINKS" = some (.ref d) ∧ KTab K w d [("rise", " + "), ("fall", " - ")]) {n : Nat} {Fr : FS} (c_p_show_tree : Cal P w K mg base (1 + n) "show_tree" ["tree"] Fr) (cdv : Value) (A : Around) (outer : List Env) (s : Shared) (f : Addr) (H : Hp) (E : XK) (hr : Room (1 + n) (A.deeper (envOfC "show_tree" (defScope st_p_show_tree) s.heap.objs.size f cdv))) :
    PSs (cxOf CX0 P w K mg base ["tree", "texts", "part", "one"] "show_tree" (defScope st_p_show_tree) f cdv A outer s H E).nox (defBody st_p_show_tree) (upS K (T_p_show_tree Fr)) :=
  have hu := hu0 hr
  (s_cons (s_if (t_cmp (o_eq hu) (vv 0) (v_gtup g_ONE) (nomark _))
  (s_one (s_ret v_str))
  s_nil)
  (s_cons (s_setLc (i := 1) (t := (.name 2)) (own := [("part", 2)]) rfl sc_p_show_tree.nd rfl rfl (sw_true rfl rfl rfl (by decide +kernel)) (i_seq (v_ix (vv 0) (v_un u_neg v_int))) (blkOk_by (N := ["tree", "texts", "part", "one"]) (sc := defScope st_p_show_tree) (by decide +kernel)) (fun _ _ _ _ _ => (g_name (i := 2) sc_p_show_tree.nd)) (fun _ _ _ _ _ => ts_nil) (fun _ _ _ _ _ => (v_cal c_p_show_tree hr (a_cons (vv 2) a_nil))))
  (s_cons (s_if (t_cmp (o_eq hu) (v_ix (vv 0) v_int) v_str (nomark _))
  (s_one (s_ret (v_op o_add (v_op o_add (v_op o_add (v_bm PySem.F.plainAttrs_str PySem.F.slot_str_join PySem.F.type_str_join rcS_ok m_join v_str (a_cons (v_lc (t := (.name 3)) (own := [("one", 3)]) rfl sc_p_show_tree.nd (i_seq (v_ix (vv 0) v_int)) (blkOk_by (N := ["tree", "texts", "part", "one"]) (sc := defScope st_p_show_tree) (by decide +kernel)) (fun _ _ _ _ _ => (g_name (i := 3) sc_p_show_tree.nd)) (fun _ _ _ _ _ => ts_nil) (fun _ _ _ _ _ => (v_callTy c_str (by rfl) bt.str boot_str (a_cons (vv 3) a_nil)))) a_nil)) v_str) (v_bm PySem.F.plainAttrs_str PySem.F.slot_str_join PySem.F.type_str_join rcS_ok m_join v_str (a_cons (vv 1) a_nil))) v_str)))
  s_nil)
  (s_one (s_ret (v_op o_add (v_op o_add v_str (v_bm PySem.F.plainAttrs_str PySem.F.slot_str_join PySem.F.type_str_join rcS_ok m_join (v_kd g_LINKS rfl (v_ix (vv 0) v_int)) (a_cons (vv 1) a_nil))) v_str))))))

theorem d_p_numeral (bt : Bt mg) (c_p_must_be : Cal P w K mg base 1 "must_be" ["truth"] F_p_must_be) (g_FIGURES : ∃ t, mg "FIGURES" = some (.str "0123456789" t))  (cdv : Value) (A : Around) (outer : List Env) (s : Shared) (f : Addr) (H : Hp) (E : XK) (hr : Room 1 (A.deeper (envOfC "numeral" (defScope st_p_numeral) s.heap.objs.size f cdv))) :
    PSs (cxOf CX0 P w K mg base ["word", "sign"] "numeral" (defScope st_p_numeral) f cdv A outer s H E).nox (defBody st_p_numeral) (upS K (T_p_numeral)) :=
  have hu := hu0 hr
  (s_cons (s_expr (v_cal (c_p_must_be.mono (by omega)) hr (a_cons (v_and (v_chain o_le o_le v_int (v_callB c_len (by rfl) bt.len boot_len (a_cons (vv 0) a_nil)) v_int) (v_one (v_callB (c_all rfl) (by rfl) bt.all boot_all (a_cons (v_lc (t := (.name 1)) (own := [("sign", 1)]) rfl sc_p_numeral.nd (i_signs (vv 0)) (blkOk_by (N := ["word", "sign"]) (sc := defScope st_p_numeral) (by decide +kernel)) (fun _ _ _ _ _ => (g_name (i := 1) sc_p_numeral.nd)) (fun _ _ _ _ _ => ts_nil) (fun _ _ _ _ _ => (v_cmp o_inSign (vv 1) (v_gstr g_FIGURES) (by rfl)))) a_nil)))) a_nil)))
  (s_cons (s_expr (v_cal (c_p_must_be.mono (by omega)) hr (a_cons (v_cmp (o_ne hu) (v_ix (vv 0) v_int) v_str (nomark _)) a_nil)))
  (s_one (s_ret (v_callTy c_intS (by rfl) bt.int boot_int (a_cons (vv 0) a_nil))))))

theorem d_p_row_read (bt : Bt mg) (c_p_is_row : Cal P w K mg base 2 "is_row" ["thing"] F_p_is_row) (c_p_must_be : Cal P w K mg base 1 "must_be" ["truth"] F_p_must_be) (c_p_numeral : Cal P w K mg base 2 "numeral" ["word"] F_p_numeral)  (cdv : Value) (A : Around) (outer : List Env) (s : Shared) (f : Addr) (H : Hp) (E : XK) (hr : Room 2 (A.deeper (envOfC "row_read" (defScope st_p_row_read) s.heap.objs.size f cdv))) :
    PSs (cxOf CX0 P w K mg base ["text", "link", "row", "word"] "row_read" (defScope st_p_row_read) f cdv A outer s H E).nox (defBody st_p_row_read) (upS K (T_p_row_read)) :=
  have hu := hu0 hr
  (s_cons (s_set (i := 2) sc_p_row_read.nd rfl (.inl rfl) (v_callTy c_tuple (by rfl) bt.tuple boot_tuple (a_cons (v_lc (t := (.name 3)) (own := [("word", 3)]) rfl sc_p_row_read.nd (i_seq (v_bm PySem.F.plainAttrs_str PySem.F.slot_str_split PySem.F.type_str_split rcS_ok m_split (vv 0) (a_cons (vv 1) a_nil))) (blkOk_by (N := ["text", "link", "row", "word"]) (sc := defScope st_p_row_read) (by decide +kernel)) (fun _ _ _ _ _ => (g_name (i := 3) sc_p_row_read.nd)) (fun _ _ _ _ _ => ts_nil) (fun _ _ _ _ _ => (v_cal (c_p_numeral.mono (by omega)) hr (a_cons (vv 3) a_nil)))) a_nil)))
  (s_cons (s_expr (v_cal (c_p_must_be.mono (by omega)) hr (a_cons (v_cal (c_p_is_row.mono (by omega)) hr (a_cons (vv 2) a_nil)) a_nil)))
  (s_one (s_ret (vv 2)))))

theorem d_p_read_row (bt : Bt mg) (c_p_row_read : Cal P w K mg base 3 "row_read" ["text", "link"] F_p_row_read) (c_p_must_be : Cal P w K mg base 1 "must_be" ["truth"] F_p_must_be)  (cdv : Value) (A : Around) (outer : List Env) (s : Shared) (f : Addr) (H : Hp) (E : XK) (hr : Room 3 (A.deeper (envOfC "read_row" (defScope st_p_read_row) s.heap.objs.size f cdv))) :
    PSs (cxOf CX0 P w K mg base ["thing"] "read_row" (defScope st_p_read_row) f cdv A outer s H E).nox (defBody st_p_read_row) (upS K (T_p_read_row)) :=
  have hu := hu0 hr
  (s_cons (s_expr (v_cal (c_p_must_be.mono (by omega)) hr (a_cons (v_isi isf_str (by rfl) bt.isinstance (by rfl) bt.str boot_str (vv 0)) a_nil)))
  (s_one (s_ret (v_cal (c_p_row_read.mono (by omega)) hr (a_cons (vv 0) (a_cons v_str a_nil))))))

theorem d_p_word_end (bt : Bt mg) (g_FIGURES : ∃ t, mg "FIGURES" = some (.str "0123456789" t))  (cdv : Value) (A : Around) (outer : List Env) (s : Shared) (f : Addr) (H : Hp) (E : XK) (hr : Room 0 (A.deeper (envOfC "word_end" (defScope st_p_word_end) s.heap.objs.size f cdv))) :
    PSs (cxOf CX0 P w K mg base ["text", "at"] "word_end" (defScope st_p_word_end) f cdv A outer s H E).nox (defBody st_p_word_end) (upS K (T_p_word_end)) :=
  have hu := hu0 hr
  (s_cons (s_while PassesOwn.never (PW.pt (w_and (t_cmp o_lt (vv 1) (v_callB c_len (by rfl) bt.len boot_len (a_cons (vv 0) a_nil)) (nomark _)) (w_and1 (PW.pt (w_or (t_cmp o_inSign (v_ix (vv 0) (vv 1)) (v_gstr g_FIGURES) (by rfl)) (w_or1 (t_cmp (o_eq hu) (v_ix (vv 0) (vv 1)) v_str (nomark _))))))))
  (s_one (s_set (i := 1) sc_p_word_end.nd rfl (.inl rfl) (v_op o_add (vv 1) v_int))))
  (s_one (s_ret (vv 1))))

theorem d_p_read_parts (bt : Bt mg)  {n : Nat} {Fr : FS} (c_p_read_part : Cal P w K mg base (4 + n) "read_part" ["text", "at", "deep"] Fr) (cdv : Value) (A : Around) (outer : List Env) (s : Shared) (f : Addr) (H : Hp) (E : XK) (hr : Room (4 + n) (A.deeper (envOfC "read_parts" (defScope st_p_read_parts) s.heap.objs.size f cdv))) :
    PSs (cxOf CX0 P w K mg base ["text", "at", "links", "deep", "part", "found", "here", "link"] "read_parts" (defScope st_p_read_parts) f cdv A outer s H E).nox (defBody st_p_read_parts) (upS K (T_p_read_parts Fr)) :=
  have hu := hu0 hr
  (s_cons (s_bind (t := (.tup [(.name 4), (.name 1)])) (ps_asg (v_cal c_p_read_part hr (a_cons (vv 0) (a_cons (vv 1) (a_cons (vv 3) a_nil)))) (g_tup rfl (gs_cons (g_name (i := 4) sc_p_read_parts.nd) (gs_cons (g_name (i := 1) sc_p_read_parts.nd) gs_nil)))))
  (s_cons (s_set (i := 5) sc_p_read_parts.nd rfl (.inl rfl) (v_lstO (a_cons (vv 4) a_nil)))
  (s_cons (s_set (i := 6) sc_p_read_parts.nd rfl (.inl rfl) (v_bm PySem.F.plainAttrs_str PySem.F.slot_str_join PySem.F.type_str_join rcS_ok m_join v_str (a_cons (v_lc (t := (.name 7)) (own := [("link", 7)]) rfl sc_p_read_parts.nd (i_seq (vv 2)) (blkOk_by (N := ["text", "at", "links", "deep", "part", "found", "here", "link"]) (sc := defScope st_p_read_parts) (by decide +kernel)) (fun _ _ _ _ _ => (g_name (i := 7) sc_p_read_parts.nd)) (fun _ _ _ _ _ => ts_one (t_cmp (o_eq hu) (v_slS (vv 0) (p_some (vv 1)) (p_some (v_op o_add (vv 1) (v_callB c_len (by rfl) bt.len boot_len (a_cons (vv 7) a_nil))))) (vv 7) (nomark _))) (fun _ _ _ _ _ => (vv 7))) a_nil)))
  (s_cons (s_while PassesOwn.never (PW.pt (w_and (t_cmp (o_ne hu) (vv 6) v_str (nomark _)) (w_and1 (t_cmp (o_eq hu) (v_slS (vv 0) (p_some (vv 1)) (p_some (v_op o_add (vv 1) (v_callB c_len (by rfl) bt.len boot_len (a_cons (vv 6) a_nil))))) (vv 6) (nomark _)))))
  (s_cons (s_bind (t := (.tup [(.name 4), (.name 1)])) (ps_asg (v_cal c_p_read_part hr (a_cons (vv 0) (a_cons (v_op o_add (vv 1) (v_callB c_len (by rfl) bt.len boot_len (a_cons (vv 6) a_nil))) (a_cons (vv 3) a_nil)))) (g_tup rfl (gs_cons (g_name (i := 4) sc_p_read_parts.nd) (gs_cons (g_name (i := 1) sc_p_read_parts.nd) gs_nil)))))
  (s_one (s_expr (v_bm PySem.F.plainAttrs_list PySem.F.slot_list_append PySem.F.type_list_append rcL_ok m_app (vv 5) (a_cons (vv 4) a_nil))))))
  (s_one (s_ret (v_tup (a_cons (v_callTy c_tuple (by rfl) bt.tuple boot_tuple (a_cons (vv 5) a_nil)) (a_cons (vv 6) (a_cons (vv 1) a_nil))))))))))

theorem d_p_read_part (bt : Bt mg) (c_p_must_be : Cal P w K mg base 1 "must_be" ["truth"] F_p_must_be) (c_p_is_unbroken : Cal P w K mg base 3 "is_unbroken" ["thing"] F_p_is_unbroken) (c_p_row_read : Cal P w K mg base 3 "row_read" ["text", "link"] F_p_row_read) (c_p_word_end : Cal P w K mg base 1 "word_end" ["text", "at"] F_p_word_end) (g_MOST : ∃ t, mg "MOST" = some (.int 40 t)) (g_ONE : ∃ a vs, mg "ONE" = some (.ref a) ∧ KT K a vs ∧ ∀ H S Z, Rps K H S Z [.str "one"] vs) (g_LINKS : ∃ d, mg "LINKS" = some (.ref d) ∧ KTab K w d [("rise", " + "), ("fall", " - ")]) {n : Nat} {Fr : FS} (c_p_read_parts : Cal P w K mg base (4 + n) "read_parts" ["text", "at", "links", "deep"] Fr) (cdv : Value) (A : Around) (outer : List Env) (s : Shared) (f : Addr) (H : Hp) (E : XK) (hr : Room (4 + n) (A.deeper (envOfC "read_part" (defScope st_p_read_part) s.heap.objs.size f cdv))) :
    PSs (cxOf CX0 P w K mg base ["text", "at", "deep", "parts", "link", "end", "shape"] "read_part" (defScope st_p_read_part) f cdv A outer s H E).nox (defBody st_p_read_part) (upS K (T_p_read_part Fr)) :=
  have hu := hu0 hr
  (s_cons (s_expr (v_cal (c_p_must_be.mono (by omega)) hr (a_cons (v_cmp o_lt (vv 2) (v_gint g_MOST) (nomark _)) a_nil)))
  (s_cons (s_if (t_cmp (o_eq hu) (v_slS (vv 0) (p_some (vv 1)) (p_some (v_op o_add (vv 1) v_int))) v_str (nomark _))
  (s_cons (s_bind (t := (.tup [(.name 3), (.name 4), (.name 5)])) (ps_asg (v_cal c_p_read_parts hr (a_cons (vv 0) (a_cons (v_op o_add (vv 1) v_int) (a_cons (v_lst (a_cons v_str (a_cons v_str a_nil))) (a_cons (v_op o_add (vv 2) v_int) a_nil))))) (g_tup rfl (gs_cons (g_name (i := 3) sc_p_read_part.nd) (gs_cons (g_name (i := 4) sc_p_read_part.nd) (gs_cons (g_name (i := 5) sc_p_read_part.nd) gs_nil))))))
  (s_cons (s_expr (v_cal (c_p_must_be.mono (by omega)) hr (a_cons (v_and (v_cmp (o_ne hu) (vv 4) v_str (nomark _)) (v_one (v_cmp (o_eq hu) (v_slS (vv 0) (p_some (vv 5)) (p_some (v_op o_add (vv 5) v_int))) v_str (nomark _)))) a_nil)))
  (s_one (s_ret (v_tup (a_cons (v_tup (a_cons (v_ix (v_lst (a_cons v_str (a_cons v_str a_nil))) (v_callTy c_int (by rfl) bt.int boot_int (a_cons (v_cmp (o_eq hu) (vv 4) (v_kd g_LINKS rfl v_str) (nomark _)) a_nil))) (a_cons (vv 3) a_nil))) (a_cons (v_op o_add (vv 5) v_int) a_nil)))))))
  s_nil)
  (s_cons (s_set (i := 5) sc_p_read_part.nd rfl (.inl rfl) (v_cal (c_p_word_end.mono (by omega)) hr (a_cons (vv 0) (a_cons (vv 1) a_nil))))
  (s_cons (s_if (t_cmp (o_eq hu) (v_slS (vv 0) (p_some (vv 1)) (p_some (vv 5))) v_str (nomark _))
  (s_one (s_ret (v_tup (a_cons (v_gtup g_ONE) (a_cons (vv 5) a_nil)))))
  s_nil)
  (s_cons (s_set (i := 6) sc_p_read_part.nd rfl (.inl rfl) (v_cal (c_p_row_read.mono (by omega)) hr (a_cons (v_slS (vv 0) (p_some (vv 1)) (p_some (vv 5))) (a_cons v_str a_nil))))
  (s_cons (s_expr (v_cal (c_p_must_be.mono (by omega)) hr (a_cons (v_and (v_cmp (o_eq hu) (v_slS (vv 0) (p_some (vv 5)) (p_some (v_op o_add (vv 5) v_int))) v_str (nomark _)) (v_one (v_cal (c_p_is_unbroken.mono (by omega)) hr (a_cons (vv 6) a_nil)))) a_nil)))
  (s_cons (s_bind (t := (.tup [(.name 3), (.name 4), (.name 5)])) (ps_asg (v_cal c_p_read_parts hr (a_cons (vv 0) (a_cons (v_op o_add (vv 5) v_int) (a_cons (v_lst (a_cons v_str a_nil)) (a_cons (v_op o_add (vv 2) v_int) a_nil))))) (g_tup rfl (gs_cons (g_name (i := 3) sc_p_read_part.nd) (gs_cons (g_name (i := 4) sc_p_read_part.nd) (gs_cons (g_name (i := 5) sc_p_read_part.nd) gs_nil))))))
  (s_cons (s_expr (v_cal (c_p_must_be.mono (by omega)) hr (a_cons (v_and (v_cmp (o_eq hu) (v_slS (vv 0) (p_some (vv 5)) (p_some (v_op o_add (vv 5) v_int))) v_str (nomark _)) (v_one (v_cmp (o_eq hu) (v_callB c_len (by rfl) bt.len boot_len (a_cons (vv 3) a_nil)) (v_callB c_len (by rfl) bt.len boot_len (a_cons (vv 6) a_nil)) (nomark _)))) a_nil)))
  (s_one (s_ret (v_tup (a_cons (v_tup (a_cons v_str (a_cons (vv 6) (a_cons (vv 3) a_nil)))) (a_cons (v_op o_add (vv 5) v_int) a_nil)))))))))))))

theorem d_p_read_tree (bt : Bt mg) (c_p_is_tree : Cal P w K mg base 107 "is_tree" ["thing"] F_p_is_tree) (c_p_must_be : Cal P w K mg base 1 "must_be" ["truth"] F_p_must_be) (c_p_read_part : Cal P w K mg base 94 "read_part" ["text", "at", "deep"] (F_p_read_part 90))  (cdv : Value) (A : Around) (outer : List Env) (s : Shared) (f : Addr) (H : Hp) (E : XK) (hr : Room 107 (A.deeper (envOfC "read_tree" (defScope st_p_read_tree) s.heap.objs.size f cdv))) :
    PSs (cxOf CX0 P w K mg base ["thing", "tree", "end"] "read_tree" (defScope st_p_read_tree) f cdv A outer s H E).nox (defBody st_p_read_tree) (upS K (T_p_read_tree)) :=
  have hu := hu0 hr
  (s_cons (s_expr (v_cal (c_p_must_be.mono (by omega)) hr (a_cons (v_isi isf_str (by rfl) bt.isinstance (by rfl) bt.str boot_str (vv 0)) a_nil)))
  (s_cons (s_bind (t := (.tup [(.name 1), (.name 2)])) (ps_asg (v_cal (c_p_read_part.mono (by omega)) hr (a_cons (vv 0) (a_cons v_int (a_cons v_int a_nil)))) (g_tup rfl (gs_cons (g_name (i := 1) sc_p_read_tree.nd) (gs_cons (g_name (i := 2) sc_p_read_tree.nd) gs_nil)))))
  (s_cons (s_expr (v_cal (c_p_must_be.mono (by omega)) hr (a_cons (v_and (v_cmp (o_eq hu) (vv 2) (v_callB c_len (by rfl) bt.len boot_len (a_cons (vv 0) a_nil)) (nomark _)) (v_one (v_cal (c_p_is_tree.mono (by omega)) hr (a_cons (vv 1) a_nil)))) a_nil)))
  (s_one (s_ret (vv 1))))))

theorem d_l_bag (bt : Bt mg)   (cdv : Value) (A : Around) (outer : List Env) (s : Shared) (f : Addr) (H : Hp) (E : XK) (hr : Room 0 (A.deeper (envOfC "_law_bag" (defScope st_l_bag) s.heap.objs.size f cdv))) :
    PSs (cxOf CX0 P w K mg base ["_law_script", "_law_at", "_law_cell", "_law_primes", "_law_number"] "_law_bag" (defScope st_l_bag) f cdv A outer s H E).nox (defBody st_l_bag) (upS K (T_l_bag)) :=
  have hu := hu0 hr
  (s_cons (s_set (i := 2) sc_l_bag.nd rfl (.inl rfl) v_int)
  (s_cons (s_if (t_cmp o_lt (vv 1) (v_callB c_len (by rfl) bt.len boot_len (a_cons (vv 0) a_nil)) (nomark _))
  (s_one (s_set (i := 2) sc_l_bag.nd rfl (.inl rfl) (v_callB c_abs (by rfl) bt.abs boot_abs (a_cons (v_ix (vv 0) (vv 1)) a_nil))))
  s_nil)
  (s_cons (s_set (i := 3) sc_l_bag.nd rfl (.inl rfl) (v_tup (a_cons v_int (a_cons v_int (a_cons v_int (a_cons v_int (a_cons v_int (a_cons v_int (a_cons v_int (a_cons v_int a_nil))))))))))
  (s_cons (s_set (i := 4) sc_l_bag.nd rfl (.inl rfl) (v_op o_add (v_op o_add (v_op o_add (v_op o_mul (v_op o_mod (vv 2) (v_ix (vv 3) (v_op o_mod (vv 1) v_int))) v_int) (v_op o_mul (v_op o_mul v_int (vv 1)) (vv 1))) (v_op o_mul v_int (vv 1))) v_int))
  (s_one (s_ret (v_lstO (a_cons (v_op o_mul (vv 2) (v_callTy c_int (by rfl) bt.int boot_int (a_cons (v_cmp o_ge (vv 2) (v_op o_pow v_int v_int) (nomark _)) a_nil))) (a_cons (v_op o_mod (v_op o_pow (vv 4) v_int) (v_ix (vv 3) (v_op o_mod (v_op o_add (vv 1) v_int) v_int))) (a_cons v_int a_nil))))))))))

theorem d_l_take (bt : Bt mg)   (cdv : Value) (A : Around) (outer : List Env) (s : Shared) (f : Addr) (H : Hp) (E : XK) (hr : Room 0 (A.deeper (envOfC "_law_take" (defScope st_l_take) s.heap.objs.size f cdv))) :
    PSs (cxOf CX0 P w K mg base ["_law_bag_here", "_law_many", "_law_digit"] "_law_take" (defScope st_l_take) f cdv A outer s H E).nox (defBody st_l_take) (upS K (T_l_take)) :=
  have hu := hu0 hr
  (s_cons (s_if (t_cmp o_gt (v_ix (vv 0) v_int) v_int (nomark _))
  (s_cons (s_set (i := 2) sc_l_take.nd rfl (.inl rfl) (v_op o_mod (v_ix (vv 0) v_int) (vv 1)))
  (s_cons (s_setIx (v_op o_div (v_ix (vv 0) v_int) (vv 1)) (vv 0) v_int (ps_asg (v_op o_div (v_ix (vv 0) v_int) (vv 1)) (pg_sub (vv 0) v_int set_list)))
  (s_one (s_ret (vv 2)))))
  s_nil)
  (s_cons (s_setIx (v_op o_add (v_ix (vv 0) v_int) v_int) (vv 0) v_int (ps_asg (v_op o_add (v_ix (vv 0) v_int) v_int) (pg_sub (vv 0) v_int set_list)))
  (s_cons (s_setIx (v_op o_mod (v_op o_pow (v_op o_add (v_op o_add (v_op o_mul (v_ix (vv 0) v_int) v_int) (v_op o_mul v_int (v_ix (vv 0) v_int))) v_int) v_int) v_int) (vv 0) v_int (ps_asg (v_op o_mod (v_op o_pow (v_op o_add (v_op o_add (v_op o_mul (v_ix (vv 0) v_int) v_int) (v_op o_mul v_int (v_ix (vv 0) v_int))) v_int) v_int) v_int) (pg_sub (vv 0) v_int set_list)))
  (s_one (s_ret (v_op o_mod (v_op o_div (v_op o_mod (v_op o_mul (v_ix (vv 0) v_int) v_int) v_int) v_int) (vv 1)))))))

theorem d_l_row (bt : Bt mg) (c_l_take : Cal P w K mg base 1 "_law_take" ["_law_bag_here", "_law_many"] F_l_take)  (cdv : Value) (A : Around) (outer : List Env) (s : Shared) (f : Addr) (H : Hp) (E : XK) (hr : Room 1 (A.deeper (envOfC "_law_row" (defScope st_l_row) s.heap.objs.size f cdv))) :
    PSs (cxOf CX0 P w K mg base ["_law_bag_here", "_law_n", "_law_left", "_law_k"] "_law_row" (defScope st_l_row) f cdv A outer s H E).nox (defBody st_l_row) (upS K (T_l_row)) :=
  have hu := hu0 hr
  (s_cons (s_set (i := 2) sc_l_row.nd rfl (.inr rfl) (v_rgLO rfl (by rfl) bt.list (by rfl) bt.range v_int (v_op o_add (vv 1) v_int)))
  (s_one (s_ret (v_callTy c_tuple (by rfl) bt.tuple boot_tuple (a_cons (v_lc (t := (.name 3)) (own := [("_law_k", 3)]) rfl sc_l_row.nd (i_rng1 (by rfl) bt.range (a_cons (vv 1) a_nil)) (blkOk_by (N := ["_law_bag_here", "_law_n", "_law_left", "_law_k"]) (sc := defScope st_l_row) (by decide +kernel)) (fun _ _ _ _ _ => (g_name (i := 3) sc_l_row.nd)) (fun _ _ _ _ _ => ts_nil) (fun _ _ _ _ _ => (v_bm PySem.F.plainAttrs_list PySem.F.slot_list_pop PySem.F.type_list_pop rcL_ok m_popAt (vv 2) (a_cons (v_cal (c_l_take.mono (by omega)) hr (a_cons (vv 0) (a_cons (v_callB c_len (by rfl) bt.len boot_len (a_cons (vv 2) a_nil)) a_nil))) a_nil)))) a_nil)))))

theorem d_l_blocked (bt : Bt mg)   (cdv : Value) (A : Around) (outer : List Env) (s : Shared) (f : Addr) (H : Hp) (E : XK) (hr : Room 0 (A.deeper (envOfC "_law_blocked" (defScope st_l_blocked) s.heap.objs.size f cdv))) :
    PSs (cxOf CX0 P w K mg base ["_law_row_here", "_law_begin", "_law_end", "_law_some"] "_law_blocked" (defScope st_l_blocked) f cdv A outer s H E).nox (defBody st_l_blocked) (upS K (T_l_blocked)) :=
  have hu := hu0 hr
  (s_cons (s_for (t := (.name 1)) PassesOwn.never rfl (i_rng1 (by rfl) bt.range (a_cons (v_callB c_len (by rfl) bt.len boot_len (a_cons (vv 0) a_nil)) a_nil)) (g_name (i := 1) sc_l_blocked.nd)
  (s_one (s_for (t := (.name 2)) PassesOwn.never rfl (i_rng2 (by rfl) bt.range (a_cons (v_op o_add (vv 1) v_int) (a_cons (v_op o_add (v_callB c_len (by rfl) bt.len boot_len (a_cons (vv 0) a_nil)) v_int) a_nil))) (g_name (i := 2) sc_l_blocked.nd)
  (s_cons (s_set (i := 3) sc_l_blocked.nd rfl (.inl rfl) (v_sl (vv 0) (p_some (vv 1)) (p_some (vv 2))))
  (s_one (s_if (PW.pt (w_and (t_cmp (o_eq hu) (v_op o_sub (v_callB (mx_run rfl hu) (by rfl) bt.max boot_max (a_cons (vv 3) a_nil)) (v_callB (mn_run rfl hu) (by rfl) bt.min boot_min (a_cons (vv 3) a_nil))) (v_op o_sub (v_op o_sub (vv 2) (vv 1)) v_int) (nomark _)) (w_and1 (t_cmp o_lt (v_op o_sub (vv 2) (vv 1)) (v_callB c_len (by rfl) bt.len boot_len (a_cons (vv 0) a_nil)) (nomark _)))))
  (s_one (s_ret v_bl))
  s_nil))))))
  (s_one (s_ret v_bl)))

theorem d_l_unbroken (bt : Bt mg) (c_l_blocked : Cal P w K mg base 1 "_law_blocked" ["_law_row_here"] F_l_blocked) (c_l_take : Cal P w K mg base 1 "_law_take" ["_law_bag_here", "_law_many"] F_l_take) (c_l_row : Cal P w K mg base 2 "_law_row" ["_law_bag_here", "_law_n"] F_l_row)  (cdv : Value) (A : Around) (outer : List Env) (s : Shared) (f : Addr) (H : Hp) (E : XK) (hr : Room 2 (A.deeper (envOfC "_law_unbroken" (defScope st_l_unbroken) s.heap.objs.size f cdv))) :
    PSs (cxOf CX0 P w K mg base ["_law_bag_here", "_law_most", "_law_row_here", "_law_some", "_law_one", "_law_place", "_law_number", "_law_lifted", "_law_more"] "_law_unbroken" (defScope st_l_unbroken) f cdv A outer s H E).nox (defBody st_l_unbroken) (upS K (T_l_unbroken)) :=
  have hu := hu0 hr
  (s_cons (s_set (i := 2) sc_l_unbroken.nd rfl (.inl rfl) (v_cal (c_l_row.mono (by omega)) hr (a_cons (vv 0) (a_cons (v_op o_add v_int (v_cal (c_l_take.mono (by omega)) hr (a_cons (vv 0) (a_cons (v_op o_sub (vv 1) v_int) a_nil)))) a_nil))))
  (s_cons (s_if (t_not (t_val (v_cal (c_l_blocked.mono (by omega)) hr (a_cons (vv 2) a_nil))))
  (s_one (s_ret (vv 2)))
  s_nil)
  (s_cons (s_set (i := 3) sc_l_unbroken.nd rfl (.inl rfl) (v_lst (a_cons (v_tup (a_cons v_int (a_cons v_int (a_cons v_int (a_cons v_int a_nil))))) (a_cons (v_tup (a_cons v_int (a_cons v_int (a_cons v_int (a_cons v_int a_nil))))) (a_cons (v_tup (a_cons v_int (a_cons v_int (a_cons v_int (a_cons v_int (a_cons v_int a_nil)))))) (a_cons (v_tup (a_cons v_int (a_cons v_int (a_cons v_int (a_cons v_int (a_cons v_int a_nil)))))) (a_cons (v_tup (a_cons v_int (a_cons v_int (a_cons v_int (a_cons v_int (a_cons v_int a_nil)))))) (a_cons (v_tup (a_cons v_int (a_cons v_int (a_cons v_int (a_cons v_int (a_cons v_int a_nil)))))) (a_cons (v_tup (a_cons v_int (a_cons v_int (a_cons v_int (a_cons v_int (a_cons v_int a_nil)))))) (a_cons (v_tup (a_cons v_int (a_cons v_int (a_cons v_int (a_cons v_int (a_cons v_int a_nil)))))) (a_cons (v_tup (a_cons v_int (a_cons v_int (a_cons v_int (a_cons v_int (a_cons v_int (a_cons v_int a_nil))))))) (a_cons (v_tup (a_cons v_int (a_cons v_int (a_cons v_int (a_cons v_int (a_cons v_int (a_cons v_int a_nil))))))) (a_cons (v_tup (a_cons v_int (a_cons v_int (a_cons v_int (a_cons v_int (a_cons v_int (a_cons v_int a_nil))))))) (a_cons (v_tup (a_cons v_int (a_cons v_int (a_cons v_int (a_cons v_int (a_cons v_int (a_cons v_int a_nil))))))) (a_cons (v_tup (a_cons v_int (a_cons v_int (a_cons v_int (a_cons v_int (a_cons v_int (a_cons v_int a_nil))))))) (a_cons (v_tup (a_cons v_int (a_cons v_int (a_cons v_int (a_cons v_int (a_cons v_int (a_cons v_int a_nil))))))) (a_cons (v_tup (a_cons v_int (a_cons v_int (a_cons v_int (a_cons v_int (a_cons v_int (a_cons v_int a_nil))))))) a_nil)))))))))))))))))
  (s_cons (s_setLc (i := 3) (t := (.name 4)) (own := [("_law_one", 4)]) rfl sc_l_unbroken.nd rfl rfl (sw_true rfl rfl rfl (by decide +kernel)) (i_seq (vv 3)) (blkOk_by (N := ["_law_bag_here", "_law_most", "_law_row_here", "_law_some", "_law_one", "_law_place", "_law_number", "_law_lifted", "_law_more"]) (sc := defScope st_l_unbroken) (by decide +kernel)) (fun _ _ _ _ _ => (g_name (i := 4) sc_l_unbroken.nd)) (fun _ _ _ _ _ => ts_one (t_cmp o_le (v_callB c_len (by rfl) bt.len boot_len (a_cons (vv 4) a_nil)) (vv 1) (nomark _))) (fun _ _ _ _ _ => (vv 4)))
  (s_cons (s_set (i := 2) sc_l_unbroken.nd rfl (.inl rfl) (v_ix (vv 3) (v_cal (c_l_take.mono (by omega)) hr (a_cons (vv 0) (a_cons (v_callB c_len (by rfl) bt.len boot_len (a_cons (vv 3) a_nil)) a_nil)))))
  (s_cons (s_bind (t := (.tup [(.name 5), (.name 6)])) (ps_asg (v_tup (a_cons (v_cal (c_l_take.mono (by omega)) hr (a_cons (vv 0) (a_cons (v_op o_add (v_callB c_len (by rfl) bt.len boot_len (a_cons (vv 2) a_nil)) v_int) a_nil))) (a_cons (v_op o_add v_int (v_cal (c_l_take.mono (by omega)) hr (a_cons (vv 0) (a_cons (v_op o_add (v_callB c_len (by rfl) bt.len boot_len (a_cons (vv 2) a_nil)) v_int) a_nil)))) a_nil))) (g_tup rfl (gs_cons (g_name (i := 5) sc_l_unbroken.nd) (gs_cons (g_name (i := 6) sc_l_unbroken.nd) gs_nil)))))
  (s_cons (s_setLc (i := 7) (t := (.name 4)) (own := [("_law_one", 4)]) rfl sc_l_unbroken.nd rfl rfl (sw_true rfl rfl rfl (by decide +kernel)) (i_seq (vv 2)) (blkOk_by (N := ["_law_bag_here", "_law_most", "_law_row_here", "_law_some", "_law_one", "_law_place", "_law_number", "_law_lifted", "_law_more"]) (sc := defScope st_l_unbroken) (by decide +kernel)) (fun _ _ _ _ _ => (g_name (i := 4) sc_l_unbroken.nd)) (fun _ _ _ _ _ => ts_nil) (fun _ _ _ _ _ => (v_op o_add (vv 4) (v_callTy c_int (by rfl) bt.int boot_int (a_cons (v_cmp o_ge (vv 4) (vv 6) (nomark _)) a_nil)))))
  (s_cons (s_set (i := 8) sc_l_unbroken.nd rfl (.inl rfl) (v_callTy c_tuple (by rfl) bt.tuple boot_tuple (a_cons (v_op o_add (v_op o_add (v_sl (vv 7) p_none (p_some (vv 5))) (v_lst (a_cons (vv 6) a_nil))) (v_sl (vv 7) (p_some (vv 5)) p_none)) a_nil)))
  (s_one (s_ret (v_ifE (PW.pt (w_and (t_cmp o_le (v_callB c_len (by rfl) bt.len boot_len (a_cons (vv 8) a_nil)) (vv 1) (nomark _)) (w_and1 (t_not (t_val (v_cal (c_l_blocked.mono (by omega)) hr (a_cons (vv 8) a_nil))))))) (vv 8) (vv 2))))))))))))

theorem d_l_tree (bt : Bt mg) (c_l_take : Cal P w K mg base 1 "_law_take" ["_law_bag_here", "_law_many"] F_l_take) (c_l_unbroken : Cal P w K mg base 3 "_law_unbroken" ["_law_bag_here", "_law_most"] F_l_unbroken) {n : Nat} {Fr : FS} (c_l_tree : Cal P w K mg base (4 + n) "_law_tree" ["_law_bag_here", "_law_many", "_law_above"] Fr) (cdv : Value) (A : Around) (outer : List Env) (s : Shared) (f : Addr) (H : Hp) (E : XK) (hr : Room (4 + n) (A.deeper (envOfC "_law_tree" (defScope st_l_tree) s.heap.objs.size f cdv))) :
    PSs (cxOf CX0 P w K mg base ["_law_bag_here", "_law_many", "_law_above", "_law_word", "_law_sizes", "_law_node", "_law_shape", "_law_left", "_law_k", "_law_size"] "_law_tree" (defScope st_l_tree) f cdv A outer s H E).nox (defBody st_l_tree) (upS K (T_l_tree Fr)) :=
  have hu := hu0 hr
  (s_cons (s_if (t_cmp (o_eq hu) (vv 1) v_int (nomark _))
  (s_one (s_ret (v_tup (a_cons v_str a_nil))))
  s_nil)
  (s_cons (s_set (i := 3) sc_l_tree.nd rfl (.inr rfl) v_str)
  (s_cons (s_if (PW.pt (w_or (t_cmp o_lt (vv 1) v_int (nomark _)) (w_or1 (t_cmp o_lt (v_cal (c_l_take.mono (by omega)) hr (a_cons (vv 0) (a_cons v_int a_nil))) v_int (nomark _)))))
  (s_cons (s_set (i := 3) sc_l_tree.nd rfl (.inr rfl) (v_ix (v_lst (a_cons v_str (a_cons v_str a_nil))) (v_cal (c_l_take.mono (by omega)) hr (a_cons (vv 0) (a_cons v_int a_nil)))))
  (s_cons (s_set (i := 3) sc_l_tree.nd rfl (.inr rfl) (v_ifE (t_cmp (o_eq hu) (vv 3) (vv 2) (nomark _)) (v_dix hu (v_disp (ppv_cons v_str v_str (ppv_cons v_str v_str ppv_nil))) (vv 3)) (vv 3)))
  (s_cons (s_set (i := 4) sc_l_tree.nd rfl (.inl rfl) (v_op o_repO (v_lst (a_cons v_int a_nil)) (v_op o_add v_int (v_cal (c_l_take.mono (by omega)) hr (a_cons (vv 0) (a_cons (v_callB (c_min2 rfl) (by rfl) bt.min boot_min (a_cons (v_op o_sub (vv 1) v_int) (a_cons v_int a_nil))) a_nil))))))
  (s_one (s_set (i := 5) sc_l_tree.nd rfl (.inl rfl) (v_tup (a_cons (vv 3) a_nil)))))))
  (s_cons (s_set (i := 6) sc_l_tree.nd rfl (.inl rfl) (v_cal (c_l_unbroken.mono (by omega)) hr (a_cons (vv 0) (a_cons (v_callB (c_min2 rfl) (by rfl) bt.min boot_min (a_cons (vv 1) (a_cons v_int a_nil))) a_nil))))
  (s_cons (s_set (i := 4) sc_l_tree.nd rfl (.inl rfl) (v_op o_repO (v_lst (a_cons v_int a_nil)) (v_callB c_len (by rfl) bt.len boot_len (a_cons (vv 6) a_nil))))
  (s_one (s_set (i := 5) sc_l_tree.nd rfl (.inl rfl) (v_tup (a_cons (vv 3) (a_cons (vv 6) a_nil))))))))
  (s_cons (s_set (i := 7) sc_l_tree.nd rfl (.inl rfl) (v_op o_sub (vv 1) (v_callB c_len (by rfl) bt.len boot_len (a_cons (vv 4) a_nil))))
  (s_cons (s_if (t_cmp (o_eq hu) (v_cal (c_l_take.mono (by omega)) hr (a_cons (vv 0) (a_cons v_int a_nil))) v_int (nomark _))
  (s_cons (s_augIx (vv 7) (vv 4) (v_cal (c_l_take.mono (by omega)) hr (a_cons (vv 0) (a_cons (v_callB c_len (by rfl) bt.len boot_len (a_cons (vv 4) a_nil)) a_nil))))
  (s_one (s_set (i := 7) sc_l_tree.nd rfl (.inl rfl) v_int)))
  s_nil)
  (s_cons (s_for (t := (.name 8)) PassesOwn.never rfl (i_rng1 (by rfl) bt.range (a_cons (vv 7) a_nil)) (g_name (i := 8) sc_l_tree.nd)
  (s_one (s_augIx v_int (vv 4) (v_cal (c_l_take.mono (by omega)) hr (a_cons (vv 0) (a_cons (v_callB c_len (by rfl) bt.len boot_len (a_cons (vv 4) a_nil)) a_nil))))))
  (s_one (s_ret (v_op o_add (vv 5) (v_tup (a_cons (v_callTy c_tuple (by rfl) bt.tuple boot_tuple (a_cons (v_lc (t := (.name 9)) (own := [("_law_size", 9)]) rfl sc_l_tree.nd (i_seqF (vv 4)) (blkOk_by (N := ["_law_bag_here", "_law_many", "_law_above", "_law_word", "_law_sizes", "_law_node", "_law_shape", "_law_left", "_law_k", "_law_size"]) (sc := defScope st_l_tree) (by decide +kernel)) (fun _ _ _ _ _ => (g_name (i := 9) sc_l_tree.nd)) (fun _ _ _ _ _ => ts_nil) (fun _ _ _ _ _ => (v_cal c_l_tree hr (a_cons (vv 0) (a_cons (vv 9) (a_cons (vv 3) a_nil)))))) a_nil)) a_nil)))))))))))

theorem d_l_greater (bt : Bt mg) (c_l_take : Cal P w K mg base 1 "_law_take" ["_law_bag_here", "_law_many"] F_l_take) (c_l_blocked : Cal P w K mg base 1 "_law_blocked" ["_law_row_here"] F_l_blocked)  (cdv : Value) (A : Around) (outer : List Env) (s : Shared) (f : Addr) (H : Hp) (E : XK) (hr : Room 1 (A.deeper (envOfC "_law_greater" (defScope st_l_greater) s.heap.objs.size f cdv))) :
    PSs (cxOf CX0 P w K mg base ["_law_bag_here", "_law_row_here", "_law_turn", "_law_place", "_law_number", "_law_lifted", "_law_one", "_law_more"] "_law_greater" (defScope st_l_greater) f cdv A outer s H E).nox (defBody st_l_greater) (upS K (T_l_greater)) :=
  have hu := hu0 hr
  (s_cons (s_for (t := (.name 2)) PassesOwn.never rfl (i_rng1 (by rfl) bt.range (a_cons (v_cal (c_l_take.mono (by omega)) hr (a_cons (vv 0) (a_cons v_int a_nil))) a_nil)) (g_name (i := 2) sc_l_greater.nd)
  (s_cons (s_bind (t := (.tup [(.name 3), (.name 4)])) (ps_asg (v_tup (a_cons (v_cal (c_l_take.mono (by omega)) hr (a_cons (vv 0) (a_cons (v_op o_add (v_callB c_len (by rfl) bt.len boot_len (a_cons (vv 1) a_nil)) v_int) a_nil))) (a_cons (v_op o_add v_int (v_cal (c_l_take.mono (by omega)) hr (a_cons (vv 0) (a_cons (v_op o_add (v_callB c_len (by rfl) bt.len boot_len (a_cons (vv 1) a_nil)) v_int) a_nil)))) a_nil))) (g_tup rfl (gs_cons (g_name (i := 3) sc_l_greater.nd) (gs_cons (g_name (i := 4) sc_l_greater.nd) gs_nil)))))
  (s_cons (s_setLc (i := 5) (t := (.name 6)) (own := [("_law_one", 6)]) rfl sc_l_greater.nd rfl rfl (sw_true rfl rfl rfl (by decide +kernel)) (i_seq (vv 1)) (blkOk_by (N := ["_law_bag_here", "_law_row_here", "_law_turn", "_law_place", "_law_number", "_law_lifted", "_law_one", "_law_more"]) (sc := defScope st_l_greater) (by decide +kernel)) (fun _ _ _ _ _ => (g_name (i := 6) sc_l_greater.nd)) (fun _ _ _ _ _ => ts_nil) (fun _ _ _ _ _ => (v_op o_add (vv 6) (v_callTy c_int (by rfl) bt.int boot_int (a_cons (v_cmp o_ge (vv 6) (vv 4) (nomark _)) a_nil)))))
  (s_cons (s_set (i := 7) sc_l_greater.nd rfl (.inl rfl) (v_callTy c_tuple (by rfl) bt.tuple boot_tuple (a_cons (v_op o_add (v_op o_add (v_sl (vv 5) p_none (p_some (vv 3))) (v_lst (a_cons (vv 4) a_nil))) (v_sl (vv 5) (p_some (vv 3)) p_none)) a_nil)))
  (s_one (s_set (i := 1) sc_l_greater.nd rfl (.inl rfl) (v_ifE (t_val (v_cal (c_l_blocked.mono (by omega)) hr (a_cons (vv 7) a_nil))) (vv 1) (vv 7))))))))
  (s_one (s_ret (vv 1))))

theorem d_l_any_tree (bt : Bt mg) (c_l_take : Cal P w K mg base 1 "_law_take" ["_law_bag_here", "_law_many"] F_l_take) (c_l_tree : Cal P w K mg base 45 "_law_tree" ["_law_bag_here", "_law_many", "_law_above"] (F_l_tree 41)) (c_l_unbroken : Cal P w K mg base 3 "_law_unbroken" ["_law_bag_here", "_law_most"] F_l_unbroken) (c_l_greater : Cal P w K mg base 2 "_law_greater" ["_law_bag_here", "_law_row_here"] F_l_greater)  (cdv : Value) (A : Around) (outer : List Env) (s : Shared) (f : Addr) (H : Hp) (E : XK) (hr : Room 45 (A.deeper (envOfC "_law_any_tree" (defScope st_l_any_tree) s.heap.objs.size f cdv))) :
    PSs (cxOf CX0 P w K mg base ["_law_bag_here", "_law_many", "_law_shape", "_law_at", "_law_inner"] "_law_any_tree" (defScope st_l_any_tree) f cdv A outer s H E).nox (defBody st_l_any_tree) (upS K (T_l_any_tree)) :=
  have hu := hu0 hr
  (s_cons (s_if (t_cmp o_gt (v_cal (c_l_take.mono (by omega)) hr (a_cons (vv 0) (a_cons v_int a_nil))) v_int (nomark _))
  (s_one (s_ret (v_cal (c_l_tree.mono (by omega)) hr (a_cons (vv 0) (a_cons (vv 1) (a_cons v_str a_nil))))))
  s_nil)
  (s_cons (s_set (i := 2) sc_l_any_tree.nd rfl (.inl rfl) (v_cal (c_l_greater.mono (by omega)) hr (a_cons (vv 0) (a_cons (v_cal (c_l_unbroken.mono (by omega)) hr (a_cons (vv 0) (a_cons v_int a_nil))) a_nil))))
  (s_cons (s_set (i := 3) sc_l_any_tree.nd rfl (.inl rfl) (v_cal (c_l_take.mono (by omega)) hr (a_cons (vv 0) (a_cons (v_callB c_len (by rfl) bt.len boot_len (a_cons (vv 2) a_nil)) a_nil))))
  (s_cons (s_set (i := 4) sc_l_any_tree.nd rfl (.inl rfl) (v_cal (c_l_tree.mono (by omega)) hr (a_cons (vv 0) (a_cons (v_op o_add v_int (v_cal (c_l_take.mono (by omega)) hr (a_cons (vv 0) (a_cons v_int a_nil)))) (a_cons v_str a_nil)))))
  (s_one (s_ret (v_tup (a_cons v_str (a_cons (vv 2) (a_cons (v_op o_add (v_op o_add (v_op o_repT (v_tup (a_cons (v_tup (a_cons v_str a_nil)) a_nil)) (vv 3)) (v_tup (a_cons (vv 4) a_nil))) (v_op o_repT (v_tup (a_cons (v_tup (a_cons v_str a_nil)) a_nil)) (v_op o_sub (v_op o_sub (v_callB c_len (by rfl) bt.len boot_len (a_cons (vv 2) a_nil)) (vv 3)) v_int))) a_nil))))))))))

theorem d_l_row_text (bt : Bt mg)   (cdv : Value) (A : Around) (outer : List Env) (s : Shared) (f : Addr) (H : Hp) (E : XK) (hr : Room 0 (A.deeper (envOfC "_law_row_text" (defScope st_l_row_text) s.heap.objs.size f cdv))) :
    PSs (cxOf CX0 P w K mg base ["_law_row_here", "_law_one"] "_law_row_text" (defScope st_l_row_text) f cdv A outer s H E).nox (defBody st_l_row_text) (upS K (T_l_row_text)) :=
  have hu := hu0 hr
  (s_one (s_ret (v_bm PySem.F.plainAttrs_str PySem.F.slot_str_join PySem.F.type_str_join rcS_ok m_join v_str (a_cons (v_lc (t := (.name 1)) (own := [("_law_one", 1)]) rfl sc_l_row_text.nd (i_seq (vv 0)) (blkOk_by (N := ["_law_row_here", "_law_one"]) (sc := defScope st_l_row_text) (by decide +kernel)) (fun _ _ _ _ _ => (g_name (i := 1) sc_l_row_text.nd)) (fun _ _ _ _ _ => ts_nil) (fun _ _ _ _ _ => (v_callTy c_str (by rfl) bt.str boot_str (a_cons (vv 1) a_nil)))) a_nil))))

theorem d_l_tree_text (bt : Bt mg)  {n : Nat} {Fr : FS} (c_l_tree_text : Cal P w K mg base (1 + n) "_law_tree_text" ["_law_tree_here"] Fr) (cdv : Value) (A : Around) (outer : List Env) (s : Shared) (f : Addr) (H : Hp) (E : XK) (hr : Room (1 + n) (A.deeper (envOfC "_law_tree_text" (defScope st_l_tree_text) s.heap.objs.size f cdv))) :
    PSs (cxOf CX0 P w K mg base ["_law_tree_here", "_law_parts", "_law_part", "_law_one"] "_law_tree_text" (defScope st_l_tree_text) f cdv A outer s H E).nox (defBody st_l_tree_text) (upS K (T_l_tree_text Fr)) :=
  have hu := hu0 hr
  (s_cons (s_if (t_cmp (o_eq hu) (vv 0) (v_tup (a_cons v_str a_nil)) (nomark _))
  (s_one (s_ret v_str))
  s_nil)
  (s_cons (s_setLc (i := 1) (t := (.name 2)) (own := [("_law_part", 2)]) rfl sc_l_tree_text.nd rfl rfl (sw_true rfl rfl rfl (by decide +kernel)) (i_seq (v_ix (vv 0) (v_un u_neg v_int))) (blkOk_by (N := ["_law_tree_here", "_law_parts", "_law_part", "_law_one"]) (sc := defScope st_l_tree_text) (by decide +kernel)) (fun _ _ _ _ _ => (g_name (i := 2) sc_l_tree_text.nd)) (fun _ _ _ _ _ => ts_nil) (fun _ _ _ _ _ => (v_cal c_l_tree_text hr (a_cons (vv 2) a_nil))))
  (s_cons (s_if (t_cmp (o_eq hu) (v_ix (vv 0) v_int) v_str (nomark _))
  (s_one (s_ret (v_op o_add (v_op o_add (v_op o_add (v_bm PySem.F.plainAttrs_str PySem.F.slot_str_join PySem.F.type_str_join rcS_ok m_join v_str (a_cons (v_lc (t := (.name 3)) (own := [("_law_one", 3)]) rfl sc_l_tree_text.nd (i_seq (v_ix (vv 0) v_int)) (blkOk_by (N := ["_law_tree_here", "_law_parts", "_law_part", "_law_one"]) (sc := defScope st_l_tree_text) (by decide +kernel)) (fun _ _ _ _ _ => (g_name (i := 3) sc_l_tree_text.nd)) (fun _ _ _ _ _ => ts_nil) (fun _ _ _ _ _ => (v_callTy c_str (by rfl) bt.str boot_str (a_cons (vv 3) a_nil)))) a_nil)) v_str) (v_bm PySem.F.plainAttrs_str PySem.F.slot_str_join PySem.F.type_str_join rcS_ok m_join v_str (a_cons (vv 1) a_nil))) v_str)))
  s_nil)
  (s_one (s_ret (v_op o_add (v_op o_add v_str (v_bm PySem.F.plainAttrs_str PySem.F.slot_str_join PySem.F.type_str_join rcS_ok m_join (v_dix hu (v_disp (ppv_cons v_str v_str (ppv_cons v_str v_str ppv_nil))) (v_ix (vv 0) v_int)) (a_cons (vv 1) a_nil))) v_str))))))

theorem d_l_whole (bt : Bt mg)   (cdv : Value) (A : Around) (outer : List Env) (s : Shared) (f : Addr) (H : Hp) (E : XK) (hr : Room 0 (A.deeper (envOfC "_law_whole" (defScope st_l_whole) s.heap.objs.size f cdv))) :
    PSs (cxOf CX0 P w K mg base ["_law_thing"] "_law_whole" (defScope st_l_whole) f cdv A outer s H E).nox (defBody st_l_whole) (upS K (T_l_whole)) :=
  have hu := hu0 hr
  (s_one (s_ret (v_and (v_isi isf_int (by rfl) bt.isinstance (by rfl) bt.int boot_int (vv 0)) (v_one (v_not (v_isi isf_bool (by rfl) bt.isinstance (by rfl) bt.bool boot_bool (vv 0)))))))

theorem d_l_is_row (bt : Bt mg) (c_l_whole : Cal P w K mg base 1 "_law_whole" ["_law_thing"] F_l_whole)  (cdv : Value) (A : Around) (outer : List Env) (s : Shared) (f : Addr) (H : Hp) (E : XK) (hr : Room 1 (A.deeper (envOfC "_law_is_row" (defScope st_l_is_row) s.heap.objs.size f cdv))) :
    PSs (cxOf CX0 P w K mg base ["_law_thing", "_law_one", "_law_k"] "_law_is_row" (defScope st_l_is_row) f cdv A outer s H E).nox (defBody st_l_is_row) (upS K (T_l_is_row)) :=
  have hu := hu0 hr
  (s_cons (s_if (PW.pt (w_or (t_not (t_val (v_isi isf_tuple (by rfl) bt.isinstance (by rfl) bt.tuple boot_tuple (vv 0)))) (w_or (t_not (t_chain o_le o_le v_int (v_callB c_len (by rfl) bt.len boot_len (a_cons (vv 0) a_nil)) v_int)) (w_or1 (t_not (t_val (v_callB (c_all rfl) (by rfl) bt.all boot_all (a_cons (v_lc (t := (.name 1)) (own := [("_law_one", 1)]) rfl sc_l_is_row.nd (i_seq (vv 0)) (blkOk_by (N := ["_law_thing", "_law_one", "_law_k"]) (sc := defScope st_l_is_row) (by decide +kernel)) (fun _ _ _ _ _ => (g_name (i := 1) sc_l_is_row.nd)) (fun _ _ _ _ _ => ts_nil) (fun _ _ _ _ _ => (v_cal (c_l_whole.mono (by omega)) hr (a_cons (vv 1) a_nil)))) a_nil))))))))
  (s_one (s_ret v_bl))
  s_nil)
  (s_one (s_ret (v_callB (c_all rfl) (by rfl) bt.all boot_all (a_cons (v_lc (t := (.name 2)) (own := [("_law_k", 2)]) rfl sc_l_is_row.nd (i_rng1 (by rfl) bt.range (a_cons (v_callB c_len (by rfl) bt.len boot_len (a_cons (vv 0) a_nil)) a_nil)) (blkOk_by (N := ["_law_thing", "_law_one", "_law_k"]) (sc := defScope st_l_is_row) (by decide +kernel)) (fun _ _ _ _ _ => (g_name (i := 2) sc_l_is_row.nd)) (fun _ _ _ _ _ => ts_nil) (fun _ _ _ _ _ => (v_cmp (o_eq hu) (v_bm PySem.F.plainAttrs_tuple PySem.F.slot_tuple_count PySem.F.type_tuple_count rcT_ok (m_countT hu) (vv 0) (a_cons (v_op o_add (vv 2) v_int) a_nil)) v_int (nomark _)))) a_nil)))))

theorem d_l_is_made (bt : Bt mg) (c_l_is_row : Cal P w K mg base 2 "_law_is_row" ["_law_thing"] F_l_is_row)  (cdv : Value) (A : Around) (outer : List Env) (s : Shared) (f : Addr) (H : Hp) (E : XK) (hr : Room 2 (A.deeper (envOfC "_law_is_made" (defScope st_l_is_made) s.heap.objs.size f cdv))) :
    PSs (cxOf CX0 P w K mg base ["_law_thing", "_law_waiting", "_law_node"] "_law_is_made" (defScope st_l_is_made) f cdv A outer s H E).nox (defBody st_l_is_made) (upS K (T_l_is_made)) :=
  have hu := hu0 hr
  (s_cons (s_set (i := 1) sc_l_is_made.nd rfl (.inl rfl) (v_lstO (a_cons (vv 0) a_nil)))
  (s_cons (s_while PassesOwn.never (t_cmp (o_ne hu) (vv 1) (v_lst a_nil) (nomark _))
  (s_cons (s_set (i := 2) sc_l_is_made.nd rfl (.inl rfl) (v_bm0 PySem.F.plainAttrs_list PySem.F.slot_list_pop PySem.F.type_list_pop rcL_ok m_pop (vv 1)))
  (s_cons (s_if (PW.pt (w_or (t_not (t_val (v_isi isf_tuple (by rfl) bt.isinstance (by rfl) bt.tuple boot_tuple (vv 2)))) (w_or (t_cmp (o_eq hu) (vv 2) (v_tup a_nil) (nomark _)) (w_or1 (t_not (t_val (v_isi isf_str (by rfl) bt.isinstance (by rfl) bt.str boot_str (v_ix (vv 2) v_int))))))))
  (s_one (s_ret v_bl))
  s_nil)
  (s_cons (s_if (PW.pt (w_or (PW.pt (w_and (t_cmp (o_eq hu) (v_callB c_len (by rfl) bt.len boot_len (a_cons (vv 2) a_nil)) v_int (nomark _)) (w_and1 (t_not (t_val (v_cal (c_l_is_row.mono (by omega)) hr (a_cons (v_ix (vv 2) v_int) a_nil))))))) (w_or1 (PW.pt (w_and (t_cmp o_gt (v_callB c_len (by rfl) bt.len boot_len (a_cons (vv 2) a_nil)) v_int (nomark _)) (w_and1 (t_not (t_val (v_isi isf_tuple (by rfl) bt.isinstance (by rfl) bt.tuple boot_tuple (v_ix (vv 2) (v_un u_neg v_int)))))))))))
  (s_one (s_ret v_bl))
  s_nil)
  (s_one (s_if (t_cmp o_gt (v_callB c_len (by rfl) bt.len boot_len (a_cons (vv 2) a_nil)) v_int (nomark _))
  (s_one (s_expr (v_bm PySem.F.plainAttrs_list PySem.F.slot_list_extend PySem.F.type_list_extend rcL_ok m_ext (vv 1) (a_cons (v_callTy c_list (by rfl) bt.list boot_list (a_cons (v_ix (vv 2) (v_un u_neg v_int)) a_nil)) a_nil))))
  s_nil))))))
  (s_one (s_ret v_bl))))

theorem d_law (bt : Bt mg) (c_p_show_tree : Cal P w K mg base 42 "show_tree" ["tree"] (F_p_show_tree 41)) (c_l_tree_text : Cal P w K mg base 42 "_law_tree_text" ["_law_tree_here"] (F_l_tree_text 41)) (c_p_show_row : Cal P w K mg base 1 "show_row" ["row"] F_p_show_row) (c_l_row_text : Cal P w K mg base 1 "_law_row_text" ["_law_row_here"] F_l_row_text) (c_l_is_made : Cal P w K mg base 3 "_law_is_made" ["_law_thing"] F_l_is_made) (c_l_is_row : Cal P w K mg base 2 "_law_is_row" ["_law_thing"] F_l_is_row) (c_p_read_tree : Cal P w K mg base 108 "read_tree" ["thing"] F_p_read_tree) (c_p_read_row : Cal P w K mg base 4 "read_row" ["thing"] F_p_read_row) (c_p_tree_of : Cal P w K mg base 46 "tree_of" ["row"] (F_p_tree_of 41)) (c_l_take : Cal P w K mg base 1 "_law_take" ["_law_bag_here", "_law_many"] F_l_take) (c_l_any_tree : Cal P w K mg base 46 "_law_any_tree" ["_law_bag_here", "_law_many"] F_l_any_tree) (c_l_row : Cal P w K mg base 2 "_law_row" ["_law_bag_here", "_law_n"] F_l_row) (c_l_bag : Cal P w K mg base 1 "_law_bag" ["_law_script", "_law_at"] F_l_bag)  (cdv : Value) (A : Around) (outer : List Env) (s : Shared) (f : Addr) (H : Hp) (E : XK) (hr : Room 108 (A.deeper (envOfC "law" (defScope st_law) s.heap.objs.size f cdv))) :
    PSs (cxOf CX0 P w K mg base ["_law_script", "_law_seen", "_law_at", "_law_bag_here", "_law_row_here", "_law_tree_here", "_law_told", "_law_other"] "law" (defScope st_law) f cdv A outer s H E).nox (defBody st_law) (upS K (T_law)) :=
  have hu := hu0 hr
  (s_cons (s_set (i := 1) sc_law.nd rfl (.inl rfl) (v_lst a_nil))
  (s_cons (s_for (t := (.name 2)) PassesOwn.never rfl (i_rng1 (by rfl) bt.range (a_cons (v_callB (c_max2 rfl) (by rfl) bt.max boot_max (a_cons v_int (a_cons (v_callB (c_min2 rfl) (by rfl) bt.min boot_min (a_cons v_int (a_cons (v_callB c_len (by rfl) bt.len boot_len (a_cons (vv 0) a_nil)) a_nil))) a_nil))) a_nil)) (g_name (i := 2) sc_law.nd)
  (s_cons (s_set (i := 3) sc_law.nd rfl (.inl rfl) (v_cal (c_l_bag.mono (by omega)) hr (a_cons (vv 0) (a_cons (vv 2) a_nil))))
  (s_cons (s_set (i := 4) sc_law.nd rfl (.inl rfl) (v_cal (c_l_row.mono (by omega)) hr (a_cons (vv 3) (a_cons (v_op o_add v_int (v_cal (c_l_take.mono (by omega)) hr (a_cons (vv 3) (a_cons (v_ix (v_lst (a_cons v_int (a_cons v_int a_nil))) (v_callTy c_int (by rfl) bt.int boot_int (a_cons (v_cmp (o_eq hu) (v_cal (c_l_take.mono (by omega)) hr (a_cons (vv 3) (a_cons v_int a_nil))) v_int (nomark _)) a_nil))) a_nil)))) a_nil))))
  (s_cons (s_set (i := 5) sc_law.nd rfl (.inl rfl) (v_cal (c_l_any_tree.mono (by omega)) hr (a_cons (vv 3) (a_cons (v_op o_add v_int (v_cal (c_l_take.mono (by omega)) hr (a_cons (vv 3) (a_cons (v_ix (v_lst (a_cons v_int (a_cons v_int a_nil))) (v_callTy c_int (by rfl) bt.int boot_int (a_cons (v_cmp (o_eq hu) (v_cal (c_l_take.mono (by omega)) hr (a_cons (vv 3) (a_cons v_int a_nil))) v_int (nomark _)) a_nil))) a_nil)))) a_nil))))
  (s_one (s_set (i := 1) sc_law.nd rfl (.inl rfl) (v_op o_add (vv 1) (v_lst (a_cons (v_tup (a_cons (vv 4) (a_cons (vv 5) a_nil))) (a_cons (v_tup (a_cons (vv 4) (a_cons (v_cal (c_p_tree_of.mono (by omega)) hr (a_cons (vv 4) a_nil)) a_nil))) a_nil))))))))))
  (s_cons (s_for (t := (.tup [(.name 4), (.name 5)])) PassesOwn.never rfl (i_seq (v_op o_add (vv 1) (v_rev (vv 1)))) (g_tup rfl (gs_cons (g_name (i := 4) sc_law.nd) (gs_cons (g_name (i := 5) sc_law.nd) gs_nil)))
  (s_cons (s_set (i := 6) sc_law.nd rfl (.inl rfl) (v_cal (c_p_read_row.mono (by omega)) hr (a_cons (v_cal (c_l_row_text.mono (by omega)) hr (a_cons (vv 4) a_nil)) a_nil)))
  (s_cons (s_set (i := 7) sc_law.nd rfl (.inl rfl) (v_cal (c_p_read_tree.mono (by omega)) hr (a_cons (v_cal (c_l_tree_text.mono (by omega)) hr (a_cons (vv 5) a_nil)) a_nil)))
  (s_cons (s_if (PW.pt (w_or (t_not (t_val (v_cal (c_l_is_row.mono (by omega)) hr (a_cons (vv 6) a_nil)))) (w_or (t_cmp (o_ne hu) (vv 6) (vv 4) (nomark _)) (w_or (t_not (t_val (v_cal (c_l_is_made.mono (by omega)) hr (a_cons (vv 7) a_nil)))) (w_or1 (t_cmp (o_ne hu) (vv 7) (vv 5) (nomark _)))))))
  (s_one (s_ret v_bl))
  s_nil)
  (s_one (s_if (PW.pt (w_or (t_cmp (o_ne hu) (v_cal (c_p_show_row.mono (by omega)) hr (a_cons (vv 6) a_nil)) (v_cal (c_l_row_text.mono (by omega)) hr (a_cons (vv 4) a_nil)) (nomark _)) (w_or1 (t_cmp (o_ne hu) (v_cal (c_p_show_tree.mono (by omega)) hr (a_cons (vv 7) a_nil)) (v_cal (c_l_tree_text.mono (by omega)) hr (a_cons (vv 5) a_nil)) (nomark _)))))
  (s_one (s_ret v_bl))
  s_nil))))))
  (s_one (s_ret v_bl)))))

end

end K55
namespace K55
open PySem PySem.Spec PyProof.Rows L2 VL
local macro_rules | `(tactic| walk_at "vs") => `(tactic| simp only [q_var0, q_varS, q_sat0, q_satS, q_C, q_op, q_un, q_test, q_kB, q_not, q_and, q_or, q_ifE, q_andV, q_orV, q_notV, q_chain, q_nil, q_cons, q_tup, q_lst, q_lstO, q_CB, q_BM, q_call, q_seq, q_next, q_set, q_drop, q_ret, q_if, q_setIx, q_stD, q_nx, q_rt, q_endr, q_endn, q_I, q_I0, q_addI, q_addT, q_addL, q_neg, q_ixT atI_0, q_ixT atI_1, q_ixT atI_2, q_lenT, q_lenL, q_lenS, q_int1, q_intB, q_I1, q_II, q_tupT, q_tupL, q_rgL, q_lc, q_lcO, q_r1, q_r2, q_kR1, q_kR2, q_sq, q_kSqT, q_kSqL, q_kSqQ, q_isi, q_rev, q_revT, q_revL, q_wip0, q_wipS, q_unst0, q_unstS, q_yes, q_eqI, q_bls, q_sum, q_rcT, q_rcL, if_true, q_for, q_enum, q_kEnT, q_kEnL, q_repO, q_rep, q_let, q_bind, q_slv, q_noPart, q_part, q_kP, q_slT, q_slL, q_listT, q_listL, q_eqB, q_rgL3, q_lcW, q_forW, q_ow, q_owE,
  List.map_cons, List.map_nil, List.cons_append, List.nil_append, List.length_cons, List.length_nil, List.replicate])
theorem t_l_any_tree : ∀ ds S Qv, F_l_any_tree ds S Qv → T_l_any_tree (endsV Qv) (stD 5 ds) S := by
  rintro ds S Qv ⟨p, c0, r0, k0, N, m, rfl, hm1, hm40, hS0, hb0, hN, q⟩
  unfold T_l_any_tree
  walk_at "vs"
  refine q_takeI hS0 hb0 (by omega) (by omega) (by omega) fun c r k d hb d0 dm => ?_
  simp only [rvGt, q_I0, q_kB]
  by_cases hd : 0 < d
  · rw [if_pos (decide_eq_true hd)]
    refine ⟨p, c, r, k, _, m, "", rfl, hm1, by show m ≤ 40 + 1; omega, by omega, ust_same, hb, by omega, fun c5 r5 k5 t hb5 hwt hst _ => ?_⟩
    rw [ust_ust]
    exact fin_of (q _ _ _ _ (hb5.mono (by omega)) hwt (by omega))
  rw [if_neg (by rw [decide_eq_true_eq]; exact hd)]
  refine ⟨p, c, r, k, _, 7, rfl, by omega, by omega, ust_same, hb, by omega, fun c1 r1 k1 u hb1 hu hul => ?_⟩
  rw [ust_ust]
  refine ⟨p, c1, r1, k1, _, u, rfl, hu, by omega, ust_same, hb1, by omega, fun c2 r2 k2 sh hb2 hs hl1 hl2 => ?_⟩
  rw [ust_ust]
  have h4 := hs.len
  simp only [q_sat0, q_satS, q_lenI]
  refine q_takeI ust_same hb2 (by omega) (by omega) (by omega) fun c3 r3 k3 d3 hb3 d30 d3m => ?_
  rw [ust_ust]
  refine q_takeI ust_same hb3 (by omega) (by omega) (by omega) fun c4 r4 k4 d4 hb4 d40 d4m => ?_
  rw [ust_ust]
  obtain ⟨a, rfl⟩ := Int.eq_ofNat_of_zero_le d30
  obtain ⟨j, rfl⟩ := Int.eq_ofNat_of_zero_le d40
  rw [q_addI]
  refine ⟨p, c4, r4, k4, _, 1 + j, "", (by rw [show ((1 + j : Nat) : Int) = 1 + (j : Int) by omega]), by omega, by show 1 + j ≤ 40 + 1; omega, by omega, ust_same, hb4, by omega, fun c5 r5 k5 t hb5 hwt hst _ => ?_⟩
  rw [ust_ust]
  refine ⟨sz, sz, ?_⟩
  simp only [q_repT]
  refine ⟨by omega, by omega, sz, ?_⟩
  simp only [q_addT]
  refine ⟨sz (by rw [List.length_replicate]; simp only [List.length_cons, List.length_nil]; omega), sz, sz, ?_⟩
  simp only [rvSub, q_I0, q_repT]
  refine ⟨by omega, by omega, ?_⟩
  simp only [q_addT]
  have e1 : (((sh.length : Nat) : Int) - (a : Int) - 1).toNat = sh.length - a - 1 := by omega
  rw [e1, Int.toNat_natCast]
  refine ⟨sz (by simp only [List.length_append, List.length_replicate, List.length_cons, List.length_nil]; omega), sz, ?_⟩
  have e2 : List.replicate a (D.tup [.str "one"]) ++ [treeD t] ++ List.replicate (sh.length - a - 1) (D.tup [.str "one"]) = treeDs (List.replicate a .one ++ [t] ++ List.replicate (sh.length - a - 1) .one) := by
    rw [rep_ones, rep_ones, treeDs_map, List.map_append, List.map_append]
    rfl
  rw [e2]
  have e3 : D.tup [.str "shape", tupI sh, .tup (treeDs (List.replicate a .one ++ [t] ++ List.replicate (sh.length - a - 1) .one))] = treeD (.shp sh (List.replicate a .one ++ [t] ++ List.replicate (sh.length - a - 1) .one)) := by simp only [treeD]
  rw [e3]
  refine fin_of (q _ _ _ _ (hb5.mono (by omega)) ?_ ?_)
  · simp only [WfT]
    refine ⟨hs, by omega, by simp only [List.length_append, List.length_replicate, List.length_cons, List.length_nil]; omega, wfTs_of fun x hx => ?_⟩
    rcases List.mem_append.mp hx with hx | hx
    · rcases List.mem_append.mp hx with hx | hx
      · exact wfTs_mem (wfTs_rep a) x hx
      · rw [List.mem_singleton.mp hx]; exact hwt
    · exact wfTs_mem (wfTs_rep _) x hx
  · simp only [sizeT]
    rw [sizeTs_app, sizeTs_app, sizeTs_rep, sizeTs_rep]
    simp only [sizeTs]
    omega

theorem t_l_tree_text (n : Nat) : ∀ ds S Qv, F_l_tree_text (n + 1) ds S Qv → T_l_tree_text (F_l_tree_text n) (endsV Qv) (stD 4 ds) S := by
  rintro ds S Qv ⟨t, rfl, hw, hn, h90, q⟩
  unfold T_l_tree_text
  walk_at "vs"
  refine ⟨sz, ?_⟩
  simp only [rvEq, q_eqOne hw h90, q_kB]
  cases h1 : isOne t with
  | true =>
    cases t with
    | one => simp only [textT] at q; exact fin_of q
    | run up ps => cases h1
    | shp sh ps => cases h1
  | false =>
    obtain ⟨hl, h2, hsz, hk⟩ := shT_len hw h1
    have hge := sizeTs_ge _ hk
    obtain ⟨nt1, nt2⟩ := node_text hw h1 h90
    have hlen : (textTs (kidsT t)).length = (kidsT t).length := by rw [textTs_map, List.length_map]
    simp only [Bool.false_eq_true, if_false, ix_kids h1, q_kSqT]
    refine ⟨sz (by rw [List.length_map]; omega), text_comp (c := fun p => WfT p ∧ sizeT p ≤ n ∧ sizeT p ≤ 90) (i := 2) (fun _ => rfl) (fun p hp S Q q' => ?_) _ _ (fun p hp => ?_) ?_⟩
    · obtain ⟨a1, a2, a3⟩ := hp
      have hp1 := sizeT_pos p a1
      obtain ⟨n', rfl⟩ : ∃ n', n = n' + 1 := ⟨n - 1, by omega⟩
      exact ⟨p, rfl, a1, a2, a3, q'⟩
    · have := size_kid hk h2 p hp
      exact ⟨wfTs_mem hk p hp, by omega, by omega⟩
    · simp only [ix_word, q_eqW, q_kB]
      cases t with
      | one => cases h1
      | run up ps =>
        have e : (wordT (.run up ps) == ("shape" : Str)) = false := by cases up <;> (simp only [wordT]; decide)
        rw [e]
        simp only [Bool.false_eq_true, if_false, q_disp, q_prS, q_pr0, q_C]
        simp only [kidsT] at *
        simp only [textT] at q nt2
        simp only [Str.length_append] at nt2
        have e1 : (Str.ofString "(").length = 1 := by decide
        have e2 : (Str.ofString ")").length = 1 := by decide
        rw [e1, e2] at nt2
        have e3 : ((if up = true then (" + " : String) else (" - " : String) : Str)).length = 3 := by cases up <;> decide
        intro d hd
        refine ⟨.inr "rise", rfl, .inr "fall", rfl, ust_same, by simp, by simp only [List.map_cons, List.map_nil]; decide +kernel, ?_⟩
        rw [ust_ust]
        refine ⟨d, _, .inr (wordOf up), .str (if up = true then (" + " : String) else (" - " : String)), rfl, ust_same, rfl, by cases up <;> rfl, ?_⟩
        simp only [rcS_str, true_and, q_join]
        refine ⟨by rw [e3]; omega, ?_⟩
        simp only [rvAdd]
        refine ⟨sz (by rw [e1]; omega), sz (by rw [Str.length_append, e1, e2]; omega), fin_sub (sub_new hd) q⟩
      | shp sh ps =>
        have e : (wordT (.shp sh ps) == ("shape" : Str)) = true := by show (("shape" : Str) == ("shape" : Str)) = true; decide
        rw [e]
        simp only [if_true]
        have i1 : ∀ S (Q : KE), rvIx (treeD (.shp sh ps)) (.int 1) S Q = Q (tupI sh) S := fun S Q => by simp only [treeD]; exact q_ixT atI_1
        simp only [WfT] at hw
        have hran := unb_ran hw.1 hw.2.1
        have hd := dots_len hran hw.2.1
        simp only [kidsT] at *
        simp only [textT] at q nt2
        simp only [Str.length_append] at nt2
        have e1 : (Str.ofString "[").length = 1 := by decide
        have e2 : (Str.ofString "]").length = 1 := by decide
        have e3 : (Str.ofString " ").length = 1 := by decide
        have e4 : (Str.ofString ".").length = 1 := by decide
        rw [e1, e2] at nt2
        simp only [rcS_str, true_and, i1, tupI, q_kSqT]
        refine ⟨sz (by rw [List.length_map]; omega), ints_comp (i := 3) (fun _ => rfl) hran ?_⟩
        have hrs := row_sum hran (by omega)
        simp only [q_join]
        refine ⟨by rw [List.length_map, e4]; omega, ?_⟩
        simp only [rvAdd]
        refine ⟨sz (by show (rowDots sh).length + _ ≤ _; rw [e1]; omega), by rw [e3]; omega, ?_⟩
        refine ⟨sz (by rw [Str.length_append, e1]; show (rowDots sh).length + _ + _ ≤ _; omega), sz (by rw [Str.length_append, Str.length_append, e1, e2]; show (rowDots sh).length + _ + _ + _ ≤ _; omega), fin_of q⟩
def pairT (p : List Int × Tr) : D := .tup [tupI p.1, treeD p.2]
def Seen (ls : List (List Int × Tr)) : Prop := ∀ l ∈ ls, VL.Row l.1 ∧ 1 ≤ l.1.length ∧ l.1.length ≤ 40 ∧ WfT l.2 ∧ sizeT l.2 ≤ 40
theorem q_eqNilT {S : Own} {Q : KE} {t : Tr} (hw : WfT t) (hs : sizeT t ≤ 90) : rvEq (treeD t) (.tup []) S Q = Q (.bl false) S := by
  obtain ⟨p, hp, hd⟩ := tree_data _ t (Nat.le_refl _) hw
  unfold rvEq
  rw [q_eqv (p := p) (q := .tuple []) (by rw [vw_tree]; exact hp) rfl]
  have e3 : PyData.eqv p (.tuple []) = false := by
    cases t with
    | one =>
      simp only [treeD, toP, toPs, Option.some.injEq] at hp
      subst hp
      simp only [PyData.eqv, PyData.eqvAll]
    | run up ps =>
      simp only [treeD, toP, toPs] at hp
      cases h : toPs (treeDs ps) with
      | none => rw [h] at hp; cases hp
      | some qs => rw [h] at hp; cases hp; simp only [PyData.eqv, PyData.eqvAll]
    | shp sh ps =>
      simp only [treeD, tupI, toP, toPs, toPs_ints] at hp
      cases h : toPs (treeDs ps) with
      | none => rw [h] at hp; cases hp
      | some qs => rw [h] at hp; cases hp; simp only [PyData.eqv, PyData.eqvAll]
  rw [e3]
  simp only [show p.depth ≤ 190 by omega, true_and]
def lenN : Tr → Int
  | .one => 1
  | .run _ _ => 2
  | .shp _ _ => 3
theorem q_lenTr {S : Own} {Q : KE} {t : Tr} : rvLen [treeD t] S Q = Q (.int (lenN t)) S := by
  cases t <;> (simp only [treeD]; rw [q_lenT]; rfl)
def madeW : TSv := (tvSeq (tvSet 2 (tvBMr rcL rvPop (tvVar 1) tvNil))
  (tvSeq (tvIf (tvOr (tvNot (tvTest (tvIsi isTup (tvVar 2)))) (tvOr (tvTest (tvOp rvEq (tvVar 2) (tvTup tvNil))) (tvNot (tvTest (tvIsi isStr (tvOp rvIx (tvVar 2) (tvC (.int 0))))))))
  (tvRet (tvC (.bl false)))
  tvNext)
  (tvSeq (tvIf (tvOr (tvAnd (tvTest (tvOp rvEq (tvCB rvLen (tvCons (tvVar 2) tvNil)) (tvC (.int 3)))) (tvNot (tvTest (tvCall F_l_is_row (tvCons (tvOp rvIx (tvVar 2) (tvC (.int 1))) tvNil))))) (tvAnd (tvTest (tvOp rvGt (tvCB rvLen (tvCons (tvVar 2) tvNil)) (tvC (.int 1)))) (tvNot (tvTest (tvIsi isTup (tvOp rvIx (tvVar 2) (tvUn rvNeg (tvC (.int 1)))))))))
  (tvRet (tvC (.bl false)))
  tvNext)
  (tvIf (tvTest (tvOp rvGt (tvCB rvLen (tvCons (tvVar 2) tvNil)) (tvC (.int 1))))
  (tvDrop (tvBMr rcL rvExt (tvVar 1) (tvCons (tvCB rvList (tvCons (tvOp rvIx (tvVar 2) (tvUn rvNeg (tvC (.int 1)))) tvNil)) tvNil)))
  tvNext))))
theorem made_while {Dv : EndsV} {w : Addr} {t0 : D} {S0 : Own} : ∀ (n : Nat) (ws : List Tr) (x2 : Option D), nodesTs ws ≤ n → n ≤ 200 → (∀ t ∈ ws, WfT t ∧ sizeT t ≤ 40) →
    (∀ x2, Dv.nx [some t0, some (.ref w), x2] (ust S0 w (.lst []))) →
    whileV (tvTest (tvOp rvNe (tvVar 1) (tvLst tvNil))) madeW Dv (n + 1) [some t0, some (.ref w), x2] (ust S0 w (.lst (ws.map treeD))) := by
  intro n
  induction n with
  | zero =>
    intro ws x2 h1 _ hw q
    cases ws with
    | cons t ws => simp only [nodesTs] at h1; rw [nodesT_kids] at h1; omega
    | nil =>
      rw [q_whileS]
      walk_at "vs"
      refine ⟨sz, ?_⟩
      simp only [rvNe]
      rw [q_neNil ust_same (ps := []) rfl (by decide)]
      simp only [q_kB, decide_true, Bool.not_true, Bool.false_eq_true, if_false]
      exact q x2
  | succ n ih =>
    intro ws x2 h1 hn hw q
    rw [q_whileS]
    unfold madeW
    walk_at "vs"
    refine ⟨sz, ?_⟩
    obtain ⟨ps, hp1, hp2⟩ := trees_data fun t ht => ⟨(hw t ht).1, show sizeT t ≤ 90 by have := (hw t ht).2; omega⟩
    simp only [rvNe]
    rw [q_neNil ust_same (by rw [← treeDs_map]; exact hp1) hp2]
    simp only [q_kB]
    rcases List.eq_nil_or_concat ws with rfl | ⟨us, t, rfl⟩
    · simp only [List.map_nil, decide_true, Bool.not_true, Bool.false_eq_true, if_false]
      exact q x2
    · rw [List.concat_eq_append] at *
      have hne : ¬ ((us ++ [t]).map treeD = []) := by simp
      rw [decide_eq_false hne]
      simp only [Bool.not_false, if_true, q_rcO ust_same, true_and]
      rw [List.map_append, List.map_cons, List.map_nil]
      rw [q_popO ust_same, ust_ust]
      obtain ⟨hwt, hst⟩ := hw t (by simp)
      have hus : ∀ t ∈ us, WfT t ∧ sizeT t ≤ 40 := fun x hx => hw x (by simp [hx])
      rw [nodesTs_app] at h1
      simp only [nodesTs] at h1
      have hnk := nodesT_kids t
      have hmem : ∀ (ks : List Tr), (∀ x ∈ us ++ kidsT t, WfT x ∧ sizeT x ≤ 40) := fun _ x hx => by
        rcases List.mem_append.mp hx with hx | hx
        · exact hus x hx
        · cases h1o : isOne t with
          | true =>
            cases t with
            | one => cases hx
            | run up ps => cases h1o
            | shp sh ps => cases h1o
          | false =>
            obtain ⟨_, _, hsz, hk⟩ := shT_len hwt h1o
            have := sizeTs_mem x hx
            exact ⟨wfTs_mem hk x hx, by omega⟩
      have hlst : List.map treeD us ++ treeDs (kidsT t) = (us ++ kidsT t).map treeD := by rw [List.map_append, treeDs_map]
      have e2 := nodesTs_app us (kidsT t)
      have e3 := nodes_len us
      have e4 := nodes_len (kidsT t)
      have wd : ∀ S (Q : KE), Q (.str (wordT t)) S → rvIx (treeD t) (.int 0) S Q := fun S Q q => by rw [ix_word]; exact q
      have hend : isOne t = false → rcL (.ref w) (ust S0 w (.lst (us.map treeD))) ∧ rvExt (.ref w) [.lst ((kidsT t).map treeD)] (ust S0 w (.lst (us.map treeD))) fun x S1 => whileV (tvTest (tvOp rvNe (tvVar 1) (tvLst tvNil))) madeW Dv (n + 1) [some t0, some (.ref w), some (treeD t)] S1 := fun ho => by
        rw [q_rcO ust_same, q_extO ust_same, ust_ust]
        refine ⟨trivial, by rw [List.length_map, List.length_map]; exact sz (by omega), ?_⟩
        rw [← List.map_append]
        exact ih (us ++ kidsT t) _ (by omega) (by omega) (hmem []) q
      have isT : ∀ S, isTup (vw S (treeD t)) = true ∧ tyN (vw S (treeD t)) = some "tuple" := fun S => by
        rw [vw_tree]; cases t <;> exact ⟨rfl, rfl⟩
      refine ⟨_, (isT _).2, ?_⟩
      rw [(isT _).1]
      simp only [Bool.not_true, Bool.false_eq_true, if_false]
      refine ⟨Nat.zero_le _, ?_⟩
      rw [q_eqNilT hwt (by omega)]
      simp only [q_kB, Bool.false_eq_true, if_false]
      refine wd _ _ ⟨_, rfl, ?_⟩
      simp only [vw, isStr, Bool.not_true, Bool.false_eq_true, if_false, q_lenTr, rvEq, q_eqI, q_kB, rvGt, q_I0]
      cases t with
      | one =>
        simp only [lenN, Int.reduceEq, Int.reduceLT, decide_false, decide_true, Bool.false_eq_true, if_false, if_true]
        exact ih us _ (by simp only [kidsT, nodesTs] at hnk; omega) (by omega) hus q
      | run up ps =>
        simp only [lenN, Int.reduceEq, Int.reduceLT, decide_false, decide_true, Bool.false_eq_true, if_false, if_true]
        rw [ix_kids rfl]
        refine ⟨_, rfl, ?_⟩
        simp only [vw, isTup, Bool.not_true, Bool.false_eq_true, if_false]
        rw [ix_kids rfl]
        simp only [rvList, vw, seqD]
        exact ⟨(hend rfl).1, (hend rfl).2⟩
      | shp sh ps =>
        simp only [WfT] at hwt
        simp only [lenN, Int.reduceEq, Int.reduceLT, decide_false, decide_true, Bool.false_eq_true, if_false, if_true]
        have i1 : ∀ S (Q : KE), Q (tupI sh) S → rvIx (treeD (.shp sh ps)) (.int 1) S Q := fun S Q q => by simp only [treeD]; rw [q_ixT atI_1]; exact q
        refine i1 _ _ ?_
        obtain ⟨r1, r2⟩ := row_isD hwt.1.row (by have := hwt.1.len; omega) hwt.2.1
        refine ⟨tupI sh, "tuple", rfl, rfl, fun _ => ⟨sh.map D.int, rfl, by rw [List.length_map]; omega, fun x hx => ?_⟩, ?_⟩
        · obtain ⟨i, _, rfl⟩ := List.mem_map.mp hx
          exact ⟨fun a => by simp, _, rfl⟩
        rw [r1]
        simp only [q_kB, Bool.not_true, Bool.false_eq_true, if_false]
        rw [ix_kids rfl]
        refine ⟨_, rfl, ?_⟩
        simp only [vw, isTup, Bool.not_true, Bool.false_eq_true, if_false]
        rw [ix_kids rfl]
        simp only [rvList, vw, seqD]
        exact ⟨(hend rfl).1, (hend rfl).2⟩
theorem t_l_is_made : ∀ ds S Qv, F_l_is_made ds S Qv → T_l_is_made (endsV Qv) (stD 3 ds) S := by
  rintro ds S Qv ⟨t, rfl, hw, hs, q⟩
  unfold T_l_is_made
  walk_at "vs"
  refine ⟨sz, fun p hp => ?_⟩
  rw [q_while]
  have hn := nodes_size t hw
  refine ⟨180 + 1, made_while (S0 := S) 180 [t] none (by simp only [nodesTs]; omega) (by omega) (fun x hx => by rw [List.mem_singleton.mp hx]; exact ⟨hw, hs⟩) fun x2 => ?_⟩
  walk_at "vs"
  exact fin_sub (sub_new hp) q
theorem pick16 (d : Int) : ∃ m : Int, (m = 16 ∨ m = 40) ∧ atI [D.int 16, D.int 40] (if decide (d = 1) = true then 1 else 0) = some (.int m) := by
  split
  · exact ⟨40, .inr rfl, rfl⟩
  · exact ⟨16, .inl rfl, rfl⟩
theorem eqS {S : Own} {Q : KE} {g : Bool → Bool} {x : Str} (q : Q (.bl (g true)) S) : rvEqv g (.str x) (.str x) S Q := by
  rw [q_eqW, beq_self_eq_true]; exact q
theorem t_law : ∀ ds S Qv, F_lw 63 ds S Qv → T_law (endsV Qv) (stD 8 ds) S := by
  rintro ds S Qv ⟨ns, rfl, hl, q⟩
  unfold T_law
  refine seq_cut fun K hK => ?_
  walk_at "vs"
  refine ⟨Nat.zero_le _, hK _ _ ?_⟩
  clear hK K
  refine seq_inv (fun ρ S' => ∃ x2 x3 x4 x5 x6 x7, ∃ ls : List (List Int × Tr), ρ = [some (.scr (ns.map D.int)), some (.lst (ls.map pairT)), x2, x3, x4, x5, x6, x7] ∧ Seen ls ∧ ls.length ≤ 12 ∧ Sub S S') (fun K hK => ?_) ?_
  · walk_at "vs"
    refine ⟨by rw [List.length_map]; split <;> split <;> omega, ?_⟩
    generalize hN : (if (if ((ns.map D.int).length : Int) < 3 then ((ns.map D.int).length : Int) else 3) > 2 then (if ((ns.map D.int).length : Int) < 3 then ((ns.map D.int).length : Int) else 3) else 2 : Int) = N
    have hN2 : 0 ≤ N ∧ N ≤ 6 := by rw [← hN]; rw [List.length_map]; split <;> split <;> omega
    refine for_inv (fun i ρ S' => ∃ x2 x3 x4 x5 x6 x7, ∃ ls : List (List Int × Tr), ρ = [some (.scr (ns.map D.int)), some (.lst (ls.map pairT)), x2, x3, x4, x5, x6, x7] ∧ Seen ls ∧ ls.length = 2 * i ∧ Sub S S')
      (fun i d ρ S' hd hi => ?_) ⟨none, none, none, none, none, none, [], rfl, fun l h => absurd h List.not_mem_nil, rfl, Sub.refl S⟩ fun ρ S' hi => ?_
    · obtain ⟨x2, x3, x4, x5, x6, x7, ls, rfl, hls, hlen, hsub⟩ := hi
      rw [rngD_get] at hd
      split at hd
      · rename_i hlt
        cases hd
        refine ⟨_, rfl, fun k hk => ?_⟩
        simp only [sat, Int.zero_add]
        walk_at "vs"
        refine bag_b (by omega) (by omega) fun b S1 hb s1 b1 => ?_
        refine ⟨sz, ?_⟩
        refine take_b b1 (by omega) (by omega) (by omega) fun S2 d1 s2 b2 hd1 => ?_
        simp only [rvEq, q_eqI, q_intB]
        obtain ⟨m, hm, em⟩ := pick16 d1
        rw [q_ixL em]
        refine take_b b2 (by omega) (by omega) (by omega) fun S3 d2 s3 b3 hd2 => ?_
        rw [q_addI]
        refine row_b (k' := 1 + d2) (by omega) b3 (by omega) (by omega) fun S4 l s4 b4 hl1 hl2 => ?_
        refine ⟨sz, ?_⟩
        refine take_b b4 (by omega) (by omega) (by omega) fun S5 d3 s5 b5 hd3 => ?_
        simp only [q_eqI, q_intB]
        obtain ⟨m2, hm2, em2⟩ := pick16 d3
        rw [q_ixL em2]
        refine take_b b5 (by omega) (by omega) (by omega) fun S6 d4 s6 b6 hd4 => ?_
        rw [q_addI]
        obtain ⟨c, r, kk, hS6, hk6⟩ := b6
        refine ⟨b, c, r, kk, _, 1 + d4, (by rw [show ((1 + d4 : Nat) : Int) = 1 + (d4 : Int) by omega]), by omega, by omega, hS6, hk6, by omega, fun c6 r6 k6 t hb6 hwt hst => ?_⟩
        simp only [q_sat0, q_satS]
        refine ⟨sz, l, rfl, hl1, by omega, by show l.length ≤ 40 + 1; omega, by omega, ?_⟩
        obtain ⟨tw, to⟩ := trN_ok 41 l hl1 (by omega) (by omega) (by omega)
        have tsz : sizeT (trN 41 l) ≤ 40 := by
          have := (orderT_ok _ tw).2
          rw [to] at this
          omega
        refine ⟨sz, sz, by rw [List.length_map]; exact sz (by show ls.length + 2 ≤ _; omega), ?_⟩
        have e0 : ls.map pairT ++ [D.tup [tupI l, treeD t], D.tup [tupI l, treeD (trN 41 l)]] = (ls ++ [(l, t), (l, trN 41 l)]).map pairT := by rw [List.map_append]; rfl
        rw [e0]
        have s15 : Same S' (ust S6 b (.lst (bagD c6 r6 k6))) b := ((((s1.trans s2).trans s3).trans s4).trans s5).trans (s6.trans .ust)
        refine hk _ _ ⟨_, _, _, _, _, _, _, rfl, fun x hx => ?_, by rw [List.length_append]; simp only [List.length_cons, List.length_nil]; omega, fun a o e => ?_⟩
        · rcases List.mem_append.mp hx with hx | hx
          · exact hls x hx
          · simp only [List.mem_cons, List.mem_nil_iff, or_false] at hx
            rcases hx with rfl | rfl
            · exact ⟨hl1, by show 1 ≤ l.length; omega, by show l.length ≤ 40; omega, hwt, hst⟩
            · exact ⟨hl1, by show 1 ≤ l.length; omega, by show l.length ≤ 40; omega, tw, tsz⟩
        · have := hsub a o e
          rw [s15 a (own_ne this hb)]; exact this
      · cases hd
    · obtain ⟨x2, x3, x4, x5, x6, x7, ls, rfl, hls, hlen, hsub⟩ := hi
      refine hK _ _ ⟨_, _, _, _, _, _, ls, rfl, hls, ?_, hsub⟩
      have : (rngD 0 N.toNat).length ≤ 6 := by rw [rngD_length]; omega
      omega
  · rintro ρ S' ⟨x2, x3, x4, x5, x6, x7, ls, rfl, hls, hlen, hsub⟩
    walk_at "vs"
    refine ⟨by rw [List.length_reverse, List.length_map]; exact sz (by omega), ?_⟩
    have e1 : ls.map pairT ++ (ls.map pairT).reverse = (ls ++ ls.reverse).map pairT := by rw [List.map_append, List.map_reverse]
    rw [e1]
    have hall : ∀ l ∈ ls ++ ls.reverse, VL.Row l.1 ∧ 1 ≤ l.1.length ∧ l.1.length ≤ 40 ∧ WfT l.2 ∧ sizeT l.2 ≤ 40 := fun l h => by
      rcases List.mem_append.mp h with h | h
      · exact hls l h
      · exact hls l (List.mem_reverse.mp h)
    generalize ls ++ ls.reverse = ms at hall
    refine for_inv (fun i ρ S2 => ∃ x2 x3 x4 x5 x6 x7, ρ = [some (.scr (ns.map D.int)), some (.lst (ls.map pairT)), x2, x3, x4, x5, x6, x7] ∧ S2 = S') (fun i d ρ S2 hd hi => ?_) ⟨_, _, _, _, _, _, rfl, rfl⟩ fun ρ S2 hi => ?_
    · obtain ⟨x2, x3, x4, x5, x6, x7, rfl, rfl⟩ := hi
      obtain ⟨⟨l, t⟩, hm, rfl⟩ := List.mem_map.mp (List.mem_of_getElem? hd)
      obtain ⟨h1, h2, h3, h4, h5⟩ := hall _ hm
      have h2 : 1 ≤ l.length := h2
      have h3 : l.length ≤ 40 := h3
      have h5 : sizeT t ≤ 40 := h5
      have h1 : VL.Row l := h1
      have h4 : WfT t := h4
      have hran : ∀ x ∈ l, 0 ≤ x ∧ x ≤ 1000 := fun x hx => by have := h1.mem.mp hx; omega
      refine ⟨_, rfl, fun k hk => ?_⟩
      simp only [sat]
      refine seq_cut fun K hK => ?_
      walk_at "vs"
      refine ⟨l, rfl, hran, by omega, l, rfl, h1, h2, h3, hK _ _ ?_⟩
      clear hK K
      refine seq_cut fun K hK => ?_
      walk_at "vs"
      refine ⟨t, rfl, h4, by show sizeT t ≤ 40 + 1; omega, by omega, t, rfl, h4, h5, hK _ _ ?_⟩
      clear hK K
      refine seq_cut fun K hK => ?_
      walk_at "vs"
      obtain ⟨r1, r2⟩ := row_isD h1 h2 h3
      refine ⟨tupI l, "tuple", rfl, rfl, fun _ => ⟨l.map D.int, rfl, by rw [List.length_map]; omega, fun x hx => ?_⟩, ?_⟩
      · obtain ⟨i, _, rfl⟩ := List.mem_map.mp hx
        exact ⟨fun a => by simp, _, rfl⟩
      rw [r1]
      simp only [q_kB, Bool.not_true, Bool.false_eq_true, if_false, rvNe, q_eqTI, decide_true]
      refine ⟨t, rfl, h4, h5, ?_⟩
      simp only [q_kB, Bool.not_true, Bool.false_eq_true, if_false]
      refine q_eqTrS h4 (by omega) ?_
      simp only [q_kB, Bool.not_true, Bool.false_eq_true, if_false]
      refine hK _ _ ?_
      clear hK K
      walk_at "vs"
      refine ⟨l, rfl, hran, by omega, l, rfl, hran, by omega, eqS ?_⟩
      simp only [q_kB, Bool.not_true, Bool.false_eq_true, if_false]
      refine ⟨t, rfl, h4, by show sizeT t ≤ 40 + 1; omega, by omega, t, rfl, h4, by show sizeT t ≤ 40 + 1; omega, by omega, eqS ?_⟩
      simp only [q_kB, Bool.not_true, Bool.false_eq_true, if_false]
      exact hk _ _ ⟨_, _, _, _, _, _, rfl, rfl⟩
    · obtain ⟨x2, x3, x4, x5, x6, x7, rfl, rfl⟩ := hi
      walk_at "vs"
      exact fin_sub hsub (q S)
end K55
namespace K55
open PySem PySem.Spec PyProof.Rows L2 VL

theorem n_p_is_whole : ∀ ds S Q, F_p_is_whole ds S Q → ds.length = 1 := by
  intro ds S Q h

  unfold F_p_is_whole at h
  repeat (first | (obtain ⟨rfl, _⟩ := h; rfl) | (obtain ⟨_, h⟩ := h))

theorem n_p_is_from : ∀ ds S Q, F_p_is_from ds S Q → ds.length = 3 := by
  intro ds S Q h

  unfold F_p_is_from at h
  repeat (first | (obtain ⟨rfl, _⟩ := h; rfl) | (obtain ⟨_, h⟩ := h))

theorem n_p_is_row : ∀ ds S Q, F_p_is_row ds S Q → ds.length = 1 := by
  intro ds S Q h

  unfold F_p_is_row at h
  repeat (first | (obtain ⟨rfl, _⟩ := h; rfl) | (obtain ⟨_, h⟩ := h))

theorem n_p_closed_up : ∀ ds S Q, F_p_closed_up ds S Q → ds.length = 1 := by
  intro ds S Q h

  unfold F_p_closed_up at h
  repeat (first | (obtain ⟨rfl, _⟩ := h; rfl) | (obtain ⟨_, h⟩ := h))

theorem n_p_are_places : ∀ ds S Q, F_p_are_places ds S Q → ds.length = 2 := by
  intro ds S Q h

  unfold F_p_are_places at h
  repeat (first | (obtain ⟨rfl, _⟩ := h; rfl) | (obtain ⟨_, h⟩ := h))

theorem n_p_shape_at : ∀ ds S Q, F_p_shape_at ds S Q → ds.length = 2 := by
  intro ds S Q h

  unfold F_p_shape_at at h
  repeat (first | (obtain ⟨rfl, _⟩ := h; rfl) | (obtain ⟨_, h⟩ := h))

theorem n_p_whole_ends : ∀ ds S Q, F_p_whole_ends ds S Q → ds.length = 2 := by
  intro ds S Q h

  unfold F_p_whole_ends at h
  repeat (first | (obtain ⟨rfl, _⟩ := h; rfl) | (obtain ⟨_, h⟩ := h))

theorem n_p_whole_stretches : ∀ ds S Q, F_p_whole_stretches ds S Q → ds.length = 1 := by
  intro ds S Q h

  unfold F_p_whole_stretches at h
  repeat (first | (obtain ⟨rfl, _⟩ := h; rfl) | (obtain ⟨_, h⟩ := h))

theorem n_p_is_unbroken : ∀ ds S Q, F_p_is_unbroken ds S Q → ds.length = 1 := by
  intro ds S Q h

  unfold F_p_is_unbroken at h
  repeat (first | (obtain ⟨rfl, _⟩ := h; rfl) | (obtain ⟨_, h⟩ := h))

theorem n_p_has_parts : ∀ ds S Q, F_p_has_parts ds S Q → ds.length = 2 := by
  intro ds S Q h

  unfold F_p_has_parts at h
  repeat (first | (obtain ⟨rfl, _⟩ := h; rfl) | (obtain ⟨_, h⟩ := h))

theorem n_p_is_node : ∀ ds S Q, F_p_is_node ds S Q → ds.length = 1 := by
  intro ds S Q h

  unfold F_p_is_node at h
  repeat (first | (obtain ⟨rfl, _⟩ := h; rfl) | (obtain ⟨_, h⟩ := h))

theorem n_p_size_of : ∀ n ds S Q, F_p_size_of n ds S Q → ds.length = 1 := by
  intro n ds S Q h
  cases n with | zero => exact False.elim h | succ n => 
  unfold F_p_size_of at h
  repeat (first | (obtain ⟨rfl, _⟩ := h; rfl) | (obtain ⟨_, h⟩ := h))

theorem n_p_is_tree : ∀ ds S Q, F_p_is_tree ds S Q → ds.length = 1 := by
  intro ds S Q h

  unfold F_p_is_tree at h
  repeat (first | (obtain ⟨rfl, _⟩ := h; rfl) | (obtain ⟨_, h⟩ := h))

theorem n_p_rise_cuts : ∀ ds S Q, F_p_rise_cuts ds S Q → ds.length = 1 := by
  intro ds S Q h

  unfold F_p_rise_cuts at h
  repeat (first | (obtain ⟨rfl, _⟩ := h; rfl) | (obtain ⟨_, h⟩ := h))

theorem n_p_block_cuts : ∀ ds S Q, F_p_block_cuts ds S Q → ds.length = 1 := by
  intro ds S Q h

  unfold F_p_block_cuts at h
  repeat (first | (obtain ⟨rfl, _⟩ := h; rfl) | (obtain ⟨_, h⟩ := h))

theorem n_p_parted : ∀ ds S Q, F_p_parted ds S Q → ds.length = 2 := by
  intro ds S Q h

  unfold F_p_parted at h
  repeat (first | (obtain ⟨rfl, _⟩ := h; rfl) | (obtain ⟨_, h⟩ := h))

theorem n_p_tree_of : ∀ n ds S Q, F_p_tree_of n ds S Q → ds.length = 1 := by
  intro n ds S Q h
  cases n with | zero => exact False.elim h | succ n => 
  unfold F_p_tree_of at h
  repeat (first | (obtain ⟨rfl, _⟩ := h; rfl) | (obtain ⟨_, h⟩ := h))

theorem n_p_must_be : ∀ ds S Q, F_p_must_be ds S Q → ds.length = 1 := by
  intro ds S Q h

  unfold F_p_must_be at h
  repeat (first | (obtain ⟨rfl, _⟩ := h; rfl) | (obtain ⟨_, h⟩ := h))

theorem n_p_show_row : ∀ ds S Q, F_p_show_row ds S Q → ds.length = 1 := by
  intro ds S Q h

  unfold F_p_show_row at h
  repeat (first | (obtain ⟨rfl, _⟩ := h; rfl) | (obtain ⟨_, h⟩ := h))

theorem n_p_show_tree : ∀ n ds S Q, F_p_show_tree n ds S Q → ds.length = 1 := by
  intro n ds S Q h
  cases n with | zero => exact False.elim h | succ n => 
  unfold F_p_show_tree at h
  repeat (first | (obtain ⟨rfl, _⟩ := h; rfl) | (obtain ⟨_, h⟩ := h))

theorem n_p_numeral : ∀ ds S Q, F_p_numeral ds S Q → ds.length = 1 := by
  intro ds S Q h

  unfold F_p_numeral at h
  repeat (first | (obtain ⟨rfl, _⟩ := h; rfl) | (obtain ⟨_, h⟩ := h))

theorem n_p_row_read : ∀ ds S Q, F_p_row_read ds S Q → ds.length = 2 := by
  intro ds S Q h

  unfold F_p_row_read at h
  repeat (first | (obtain ⟨rfl, _⟩ := h; rfl) | (obtain ⟨_, h⟩ := h))

theorem n_p_read_row : ∀ ds S Q, F_p_read_row ds S Q → ds.length = 1 := by
  intro ds S Q h

  unfold F_p_read_row at h
  repeat (first | (obtain ⟨rfl, _⟩ := h; rfl) | (obtain ⟨_, h⟩ := h))

theorem n_p_word_end : ∀ ds S Q, F_p_word_end ds S Q → ds.length = 2 := by
  intro ds S Q h

  unfold F_p_word_end at h
  repeat (first | (obtain ⟨rfl, _⟩ := h; rfl) | (obtain ⟨_, h⟩ := h))

theorem n_p_read_parts : ∀ n ds S Q, F_p_read_parts n ds S Q → ds.length = 4 := by
  intro n ds S Q h
  cases n with | zero => exact False.elim h | succ n => 
  unfold F_p_read_parts at h
  repeat (first | (obtain ⟨rfl, _⟩ := h; rfl) | (obtain ⟨_, h⟩ := h))

theorem n_p_read_part : ∀ n ds S Q, F_p_read_part n ds S Q → ds.length = 3 := by
  intro n ds S Q h
  cases n with | zero => exact False.elim h | succ n => 
  unfold F_p_read_part at h
  repeat (first | (obtain ⟨rfl, _⟩ := h; rfl) | (obtain ⟨_, h⟩ := h))

theorem n_p_read_tree : ∀ ds S Q, F_p_read_tree ds S Q → ds.length = 1 := by
  intro ds S Q h

  unfold F_p_read_tree at h
  repeat (first | (obtain ⟨rfl, _⟩ := h; rfl) | (obtain ⟨_, h⟩ := h))

theorem n_l_bag : ∀ ds S Q, F_l_bag ds S Q → ds.length = 2 := by
  intro ds S Q h

  unfold F_l_bag at h
  repeat (first | (obtain ⟨rfl, _⟩ := h; rfl) | (obtain ⟨_, h⟩ := h))

theorem n_l_take : ∀ ds S Q, F_l_take ds S Q → ds.length = 2 := by
  intro ds S Q h

  unfold F_l_take at h
  repeat (first | (obtain ⟨rfl, _⟩ := h; rfl) | (obtain ⟨_, h⟩ := h))

theorem n_l_row : ∀ ds S Q, F_l_row ds S Q → ds.length = 2 := by
  intro ds S Q h

  unfold F_l_row at h
  repeat (first | (obtain ⟨rfl, _⟩ := h; rfl) | (obtain ⟨_, h⟩ := h))

theorem n_l_blocked : ∀ ds S Q, F_l_blocked ds S Q → ds.length = 1 := by
  intro ds S Q h

  unfold F_l_blocked at h
  repeat (first | (obtain ⟨rfl, _⟩ := h; rfl) | (obtain ⟨_, h⟩ := h))

theorem n_l_unbroken : ∀ ds S Q, F_l_unbroken ds S Q → ds.length = 2 := by
  intro ds S Q h

  unfold F_l_unbroken at h
  repeat (first | (obtain ⟨rfl, _⟩ := h; rfl) | (obtain ⟨_, h⟩ := h))

theorem n_l_tree : ∀ n ds S Q, F_l_tree n ds S Q → ds.length = 3 := by
  intro n ds S Q h
  cases n with | zero => exact False.elim h | succ n => 
  unfold F_l_tree at h
  repeat (first | (obtain ⟨rfl, _⟩ := h; rfl) | (obtain ⟨_, h⟩ := h))

theorem n_l_greater : ∀ ds S Q, F_l_greater ds S Q → ds.length = 2 := by
  intro ds S Q h

  unfold F_l_greater at h
  repeat (first | (obtain ⟨rfl, _⟩ := h; rfl) | (obtain ⟨_, h⟩ := h))

theorem n_l_any_tree : ∀ ds S Q, F_l_any_tree ds S Q → ds.length = 2 := by
  intro ds S Q h

  unfold F_l_any_tree at h
  repeat (first | (obtain ⟨rfl, _⟩ := h; rfl) | (obtain ⟨_, h⟩ := h))

theorem n_l_row_text : ∀ ds S Q, F_l_row_text ds S Q → ds.length = 1 := by
  intro ds S Q h

  unfold F_l_row_text at h
  repeat (first | (obtain ⟨rfl, _⟩ := h; rfl) | (obtain ⟨_, h⟩ := h))

theorem n_l_tree_text : ∀ n ds S Q, F_l_tree_text n ds S Q → ds.length = 1 := by
  intro n ds S Q h
  cases n with | zero => exact False.elim h | succ n => 
  unfold F_l_tree_text at h
  repeat (first | (obtain ⟨rfl, _⟩ := h; rfl) | (obtain ⟨_, h⟩ := h))

theorem n_l_whole : ∀ ds S Q, F_l_whole ds S Q → ds.length = 1 := by
  intro ds S Q h

  unfold F_l_whole at h
  repeat (first | (obtain ⟨rfl, _⟩ := h; rfl) | (obtain ⟨_, h⟩ := h))

theorem n_l_is_row : ∀ ds S Q, F_l_is_row ds S Q → ds.length = 1 := by
  intro ds S Q h

  unfold F_l_is_row at h
  repeat (first | (obtain ⟨rfl, _⟩ := h; rfl) | (obtain ⟨_, h⟩ := h))

theorem n_l_is_made : ∀ ds S Q, F_l_is_made ds S Q → ds.length = 1 := by
  intro ds S Q h

  unfold F_l_is_made at h
  repeat (first | (obtain ⟨rfl, _⟩ := h; rfl) | (obtain ⟨_, h⟩ := h))

theorem n_law : ∀ ds S Q, (F_lw 63) ds S Q → ds.length = 1 := by
  intro ds S Q h

  unfold F_lw at h
  repeat (first | (obtain ⟨rfl, _⟩ := h; rfl) | (obtain ⟨_, h⟩ := h))

section
variable {P : Program} {w : World} {K : PySem.W.Frag} {mg : Str → Option Value} {base : Heap}

theorem o_p_is_whole (bt : Bt mg)  {f : Addr} {fd : FuncData} (Fn : Fun K "is_whole" "is_whole" st_p_is_whole f fd) : FnOk P w K mg base CX0 1 f fd ["thing"] (spV K F_p_is_whole) :=
  def_ok Fn sc_p_is_whole n_p_is_whole (fun cdv A outer s H E hr => d_p_is_whole bt  cdv A outer s f H E hr) t_p_is_whole
theorem k_p_is_whole (bt : Bt mg)  {f : Addr} {fd : FuncData} (Fn : Fun K "is_whole" "is_whole" st_p_is_whole f fd) (hm : mg "is_whole" = some (.ref f)) : Cal P w K mg base 1 "is_whole" ["thing"] F_p_is_whole :=
  ⟨f, fd, o_p_is_whole bt  Fn, hm, Fn.kp, Fn.binds (ps := ["thing"]) fun _ _ _ _ _ _ us hl => match us, hl with | [_], _ => rfl⟩

theorem o_p_is_from (bt : Bt mg) (c_p_is_whole : Cal P w K mg base 1 "is_whole" ["thing"] F_p_is_whole) {f : Addr} {fd : FuncData} (Fn : Fun K "is_from" "is_from" st_p_is_from f fd) : FnOk P w K mg base CX0 2 f fd ["thing", "least", "most"] (spV K F_p_is_from) :=
  def_ok Fn sc_p_is_from n_p_is_from (fun cdv A outer s H E hr => d_p_is_from bt c_p_is_whole cdv A outer s f H E hr) t_p_is_from
theorem k_p_is_from (bt : Bt mg) (c_p_is_whole : Cal P w K mg base 1 "is_whole" ["thing"] F_p_is_whole) {f : Addr} {fd : FuncData} (Fn : Fun K "is_from" "is_from" st_p_is_from f fd) (hm : mg "is_from" = some (.ref f)) : Cal P w K mg base 2 "is_from" ["thing", "least", "most"] F_p_is_from :=
  ⟨f, fd, o_p_is_from bt c_p_is_whole Fn, hm, Fn.kp, Fn.binds (ps := ["thing", "least", "most"]) fun _ _ _ _ _ _ us hl => match us, hl with | [_, _, _], _ => rfl⟩

theorem o_p_is_row (bt : Bt mg) (c_p_is_whole : Cal P w K mg base 1 "is_whole" ["thing"] F_p_is_whole) (g_MOST : ∃ t, mg "MOST" = some (.int 40 t)) {f : Addr} {fd : FuncData} (Fn : Fun K "is_row" "is_row" st_p_is_row f fd) : FnOk P w K mg base CX0 2 f fd ["thing"] (spV K F_p_is_row) :=
  def_ok Fn sc_p_is_row n_p_is_row (fun cdv A outer s H E hr => d_p_is_row bt c_p_is_whole g_MOST cdv A outer s f H E hr) t_p_is_row
theorem k_p_is_row (bt : Bt mg) (c_p_is_whole : Cal P w K mg base 1 "is_whole" ["thing"] F_p_is_whole) (g_MOST : ∃ t, mg "MOST" = some (.int 40 t)) {f : Addr} {fd : FuncData} (Fn : Fun K "is_row" "is_row" st_p_is_row f fd) (hm : mg "is_row" = some (.ref f)) : Cal P w K mg base 2 "is_row" ["thing"] F_p_is_row :=
  ⟨f, fd, o_p_is_row bt c_p_is_whole g_MOST Fn, hm, Fn.kp, Fn.binds (ps := ["thing"]) fun _ _ _ _ _ _ us hl => match us, hl with | [_], _ => rfl⟩

theorem o_p_closed_up (bt : Bt mg)  {f : Addr} {fd : FuncData} (Fn : Fun K "closed_up" "closed_up" st_p_closed_up f fd) : FnOk P w K mg base CX0 1 f fd ["numbers"] (spV K F_p_closed_up) :=
  def_ok Fn sc_p_closed_up n_p_closed_up (fun cdv A outer s H E hr => d_p_closed_up bt  cdv A outer s f H E hr) t_p_closed_up
theorem k_p_closed_up (bt : Bt mg)  {f : Addr} {fd : FuncData} (Fn : Fun K "closed_up" "closed_up" st_p_closed_up f fd) (hm : mg "closed_up" = some (.ref f)) : Cal P w K mg base 1 "closed_up" ["numbers"] F_p_closed_up :=
  ⟨f, fd, o_p_closed_up bt  Fn, hm, Fn.kp, Fn.binds (ps := ["numbers"]) fun _ _ _ _ _ _ us hl => match us, hl with | [_], _ => rfl⟩

theorem o_p_are_places (bt : Bt mg) (c_p_is_from : Cal P w K mg base 2 "is_from" ["thing", "least", "most"] F_p_is_from) {f : Addr} {fd : FuncData} (Fn : Fun K "are_places" "are_places" st_p_are_places f fd) : FnOk P w K mg base CX0 3 f fd ["row", "thing"] (spV K F_p_are_places) :=
  def_ok Fn sc_p_are_places n_p_are_places (fun cdv A outer s H E hr => d_p_are_places bt c_p_is_from cdv A outer s f H E hr) t_p_are_places
theorem k_p_are_places (bt : Bt mg) (c_p_is_from : Cal P w K mg base 2 "is_from" ["thing", "least", "most"] F_p_is_from) {f : Addr} {fd : FuncData} (Fn : Fun K "are_places" "are_places" st_p_are_places f fd) (hm : mg "are_places" = some (.ref f)) : Cal P w K mg base 3 "are_places" ["row", "thing"] F_p_are_places :=
  ⟨f, fd, o_p_are_places bt c_p_is_from Fn, hm, Fn.kp, Fn.binds (ps := ["row", "thing"]) fun _ _ _ _ _ _ us hl => match us, hl with | [_, _], _ => rfl⟩

theorem o_p_shape_at (bt : Bt mg) (c_p_closed_up : Cal P w K mg base 1 "closed_up" ["numbers"] F_p_closed_up) (c_p_are_places : Cal P w K mg base 3 "are_places" ["row", "thing"] F_p_are_places) {f : Addr} {fd : FuncData} (Fn : Fun K "shape_at" "shape_at" st_p_shape_at f fd) : FnOk P w K mg base CX0 4 f fd ["row", "places"] (spV K F_p_shape_at) :=
  def_ok Fn sc_p_shape_at n_p_shape_at (fun cdv A outer s H E hr => d_p_shape_at bt c_p_closed_up c_p_are_places cdv A outer s f H E hr) t_p_shape_at
theorem k_p_shape_at (bt : Bt mg) (c_p_closed_up : Cal P w K mg base 1 "closed_up" ["numbers"] F_p_closed_up) (c_p_are_places : Cal P w K mg base 3 "are_places" ["row", "thing"] F_p_are_places) {f : Addr} {fd : FuncData} (Fn : Fun K "shape_at" "shape_at" st_p_shape_at f fd) (hm : mg "shape_at" = some (.ref f)) : Cal P w K mg base 4 "shape_at" ["row", "places"] F_p_shape_at :=
  ⟨f, fd, o_p_shape_at bt c_p_closed_up c_p_are_places Fn, hm, Fn.kp, Fn.binds (ps := ["row", "places"]) fun _ _ _ _ _ _ us hl => match us, hl with | [_, _], _ => rfl⟩

theorem o_p_whole_ends (bt : Bt mg)  {f : Addr} {fd : FuncData} (Fn : Fun K "whole_ends" "whole_ends" st_p_whole_ends f fd) : FnOk P w K mg base CX0 1 f fd ["row", "begin"] (spV K F_p_whole_ends) :=
  def_ok Fn sc_p_whole_ends n_p_whole_ends (fun cdv A outer s H E hr => d_p_whole_ends bt  cdv A outer s f H E hr) t_p_whole_ends
theorem k_p_whole_ends (bt : Bt mg)  {f : Addr} {fd : FuncData} (Fn : Fun K "whole_ends" "whole_ends" st_p_whole_ends f fd) (hm : mg "whole_ends" = some (.ref f)) : Cal P w K mg base 1 "whole_ends" ["row", "begin"] F_p_whole_ends :=
  ⟨f, fd, o_p_whole_ends bt  Fn, hm, Fn.kp, Fn.binds (ps := ["row", "begin"]) fun _ _ _ _ _ _ us hl => match us, hl with | [_, _], _ => rfl⟩

theorem o_p_whole_stretches (bt : Bt mg) (c_p_whole_ends : Cal P w K mg base 1 "whole_ends" ["row", "begin"] F_p_whole_ends) {f : Addr} {fd : FuncData} (Fn : Fun K "whole_stretches" "whole_stretches" st_p_whole_stretches f fd) : FnOk P w K mg base CX0 2 f fd ["row"] (spV K F_p_whole_stretches) :=
  def_ok Fn sc_p_whole_stretches n_p_whole_stretches (fun cdv A outer s H E hr => d_p_whole_stretches bt c_p_whole_ends cdv A outer s f H E hr) t_p_whole_stretches
theorem k_p_whole_stretches (bt : Bt mg) (c_p_whole_ends : Cal P w K mg base 1 "whole_ends" ["row", "begin"] F_p_whole_ends) {f : Addr} {fd : FuncData} (Fn : Fun K "whole_stretches" "whole_stretches" st_p_whole_stretches f fd) (hm : mg "whole_stretches" = some (.ref f)) : Cal P w K mg base 2 "whole_stretches" ["row"] F_p_whole_stretches :=
  ⟨f, fd, o_p_whole_stretches bt c_p_whole_ends Fn, hm, Fn.kp, Fn.binds (ps := ["row"]) fun _ _ _ _ _ _ us hl => match us, hl with | [_], _ => rfl⟩

theorem o_p_is_unbroken (bt : Bt mg) (c_p_whole_stretches : Cal P w K mg base 2 "whole_stretches" ["row"] F_p_whole_stretches) (c_p_is_row : Cal P w K mg base 2 "is_row" ["thing"] F_p_is_row) {f : Addr} {fd : FuncData} (Fn : Fun K "is_unbroken" "is_unbroken" st_p_is_unbroken f fd) : FnOk P w K mg base CX0 3 f fd ["thing"] (spV K F_p_is_unbroken) :=
  def_ok Fn sc_p_is_unbroken n_p_is_unbroken (fun cdv A outer s H E hr => d_p_is_unbroken bt c_p_whole_stretches c_p_is_row cdv A outer s f H E hr) t_p_is_unbroken
theorem k_p_is_unbroken (bt : Bt mg) (c_p_whole_stretches : Cal P w K mg base 2 "whole_stretches" ["row"] F_p_whole_stretches) (c_p_is_row : Cal P w K mg base 2 "is_row" ["thing"] F_p_is_row) {f : Addr} {fd : FuncData} (Fn : Fun K "is_unbroken" "is_unbroken" st_p_is_unbroken f fd) (hm : mg "is_unbroken" = some (.ref f)) : Cal P w K mg base 3 "is_unbroken" ["thing"] F_p_is_unbroken :=
  ⟨f, fd, o_p_is_unbroken bt c_p_whole_stretches c_p_is_row Fn, hm, Fn.kp, Fn.binds (ps := ["thing"]) fun _ _ _ _ _ _ us hl => match us, hl with | [_], _ => rfl⟩

theorem o_p_has_parts (bt : Bt mg)  {f : Addr} {fd : FuncData} (Fn : Fun K "has_parts" "has_parts" st_p_has_parts f fd) : FnOk P w K mg base CX0 1 f fd ["thing", "many"] (spV K F_p_has_parts) :=
  def_ok Fn sc_p_has_parts n_p_has_parts (fun cdv A outer s H E hr => d_p_has_parts bt  cdv A outer s f H E hr) t_p_has_parts
theorem k_p_has_parts (bt : Bt mg)  {f : Addr} {fd : FuncData} (Fn : Fun K "has_parts" "has_parts" st_p_has_parts f fd) (hm : mg "has_parts" = some (.ref f)) : Cal P w K mg base 1 "has_parts" ["thing", "many"] F_p_has_parts :=
  ⟨f, fd, o_p_has_parts bt  Fn, hm, Fn.kp, Fn.binds (ps := ["thing", "many"]) fun _ _ _ _ _ _ us hl => match us, hl with | [_, _], _ => rfl⟩

theorem o_p_is_node (bt : Bt mg) (c_p_has_parts : Cal P w K mg base 1 "has_parts" ["thing", "many"] F_p_has_parts) (c_p_is_unbroken : Cal P w K mg base 3 "is_unbroken" ["thing"] F_p_is_unbroken) (g_RUNS : ∃ a vs, mg "RUNS" = some (.ref a) ∧ KT K a vs ∧ ∀ H S Z, Rps K H S Z [.str "rise", .str "fall"] vs) {f : Addr} {fd : FuncData} (Fn : Fun K "is_node" "is_node" st_p_is_node f fd) : FnOk P w K mg base CX0 4 f fd ["thing"] (spV K F_p_is_node) :=
  def_ok Fn sc_p_is_node n_p_is_node (fun cdv A outer s H E hr => d_p_is_node bt c_p_has_parts c_p_is_unbroken g_RUNS cdv A outer s f H E hr) t_p_is_node
theorem k_p_is_node (bt : Bt mg) (c_p_has_parts : Cal P w K mg base 1 "has_parts" ["thing", "many"] F_p_has_parts) (c_p_is_unbroken : Cal P w K mg base 3 "is_unbroken" ["thing"] F_p_is_unbroken) (g_RUNS : ∃ a vs, mg "RUNS" = some (.ref a) ∧ KT K a vs ∧ ∀ H S Z, Rps K H S Z [.str "rise", .str "fall"] vs) {f : Addr} {fd : FuncData} (Fn : Fun K "is_node" "is_node" st_p_is_node f fd) (hm : mg "is_node" = some (.ref f)) : Cal P w K mg base 4 "is_node" ["thing"] F_p_is_node :=
  ⟨f, fd, o_p_is_node bt c_p_has_parts c_p_is_unbroken g_RUNS Fn, hm, Fn.kp, Fn.binds (ps := ["thing"]) fun _ _ _ _ _ _ us hl => match us, hl with | [_], _ => rfl⟩

theorem k_p_size_of (bt : Bt mg) (c_p_is_node : Cal P w K mg base 4 "is_node" ["thing"] F_p_is_node) (g_ONE : ∃ a vs, mg "ONE" = some (.ref a) ∧ KT K a vs ∧ ∀ H S Z, Rps K H S Z [.str "one"] vs) {f : Addr} {fd : FuncData} (Fn : Fun K "size_of" "size_of" st_p_size_of f fd) (hm : mg "size_of" = some (.ref f)) : Cal P w K mg base 106 "size_of" ["thing"] (F_p_size_of 101) :=
  cal_rec (G := F_p_size_of) (L := 5) (fun _ _ _ h => h) hm Fn.kp (Fn.binds (ps := ["thing"]) fun _ _ _ _ _ _ us hl => match us, hl with | [_], _ => rfl) (fun n c_p_size_of => def_ok Fn sc_p_size_of (n_p_size_of (n + 1)) (fun cdv A outer s H E hr => d_p_size_of bt c_p_is_node g_ONE c_p_size_of cdv A outer s f H E hr) (t_p_size_of n)) 101

theorem o_p_is_tree (bt : Bt mg) (c_p_size_of : Cal P w K mg base 106 "size_of" ["thing"] (F_p_size_of 101)) (g_MOST : ∃ t, mg "MOST" = some (.int 40 t)) {f : Addr} {fd : FuncData} (Fn : Fun K "is_tree" "is_tree" st_p_is_tree f fd) : FnOk P w K mg base CX0 107 f fd ["thing"] (spV K F_p_is_tree) :=
  def_ok Fn sc_p_is_tree n_p_is_tree (fun cdv A outer s H E hr => d_p_is_tree bt c_p_size_of g_MOST cdv A outer s f H E hr) t_p_is_tree
theorem k_p_is_tree (bt : Bt mg) (c_p_size_of : Cal P w K mg base 106 "size_of" ["thing"] (F_p_size_of 101)) (g_MOST : ∃ t, mg "MOST" = some (.int 40 t)) {f : Addr} {fd : FuncData} (Fn : Fun K "is_tree" "is_tree" st_p_is_tree f fd) (hm : mg "is_tree" = some (.ref f)) : Cal P w K mg base 107 "is_tree" ["thing"] F_p_is_tree :=
  ⟨f, fd, o_p_is_tree bt c_p_size_of g_MOST Fn, hm, Fn.kp, Fn.binds (ps := ["thing"]) fun _ _ _ _ _ _ us hl => match us, hl with | [_], _ => rfl⟩

theorem o_p_rise_cuts (bt : Bt mg)  {f : Addr} {fd : FuncData} (Fn : Fun K "rise_cuts" "rise_cuts" st_p_rise_cuts f fd) : FnOk P w K mg base CX0 1 f fd ["row"] (spV K F_p_rise_cuts) :=
  def_ok Fn sc_p_rise_cuts n_p_rise_cuts (fun cdv A outer s H E hr => d_p_rise_cuts bt  cdv A outer s f H E hr) t_p_rise_cuts
theorem k_p_rise_cuts (bt : Bt mg)  {f : Addr} {fd : FuncData} (Fn : Fun K "rise_cuts" "rise_cuts" st_p_rise_cuts f fd) (hm : mg "rise_cuts" = some (.ref f)) : Cal P w K mg base 1 "rise_cuts" ["row"] F_p_rise_cuts :=
  ⟨f, fd, o_p_rise_cuts bt  Fn, hm, Fn.kp, Fn.binds (ps := ["row"]) fun _ _ _ _ _ _ us hl => match us, hl with | [_], _ => rfl⟩

theorem o_p_block_cuts (bt : Bt mg) (c_p_whole_ends : Cal P w K mg base 1 "whole_ends" ["row", "begin"] F_p_whole_ends) {f : Addr} {fd : FuncData} (Fn : Fun K "block_cuts" "block_cuts" st_p_block_cuts f fd) : FnOk P w K mg base CX0 2 f fd ["row"] (spV K F_p_block_cuts) :=
  def_ok Fn sc_p_block_cuts n_p_block_cuts (fun cdv A outer s H E hr => d_p_block_cuts bt c_p_whole_ends cdv A outer s f H E hr) t_p_block_cuts
theorem k_p_block_cuts (bt : Bt mg) (c_p_whole_ends : Cal P w K mg base 1 "whole_ends" ["row", "begin"] F_p_whole_ends) {f : Addr} {fd : FuncData} (Fn : Fun K "block_cuts" "block_cuts" st_p_block_cuts f fd) (hm : mg "block_cuts" = some (.ref f)) : Cal P w K mg base 2 "block_cuts" ["row"] F_p_block_cuts :=
  ⟨f, fd, o_p_block_cuts bt c_p_whole_ends Fn, hm, Fn.kp, Fn.binds (ps := ["row"]) fun _ _ _ _ _ _ us hl => match us, hl with | [_], _ => rfl⟩

theorem o_p_parted (bt : Bt mg) (c_p_closed_up : Cal P w K mg base 1 "closed_up" ["numbers"] F_p_closed_up) {f : Addr} {fd : FuncData} (Fn : Fun K "parted" "parted" st_p_parted f fd) : FnOk P w K mg base CX0 2 f fd ["row", "cuts"] (spV K F_p_parted) :=
  def_ok Fn sc_p_parted n_p_parted (fun cdv A outer s H E hr => d_p_parted bt c_p_closed_up cdv A outer s f H E hr) t_p_parted
theorem k_p_parted (bt : Bt mg) (c_p_closed_up : Cal P w K mg base 1 "closed_up" ["numbers"] F_p_closed_up) {f : Addr} {fd : FuncData} (Fn : Fun K "parted" "parted" st_p_parted f fd) (hm : mg "parted" = some (.ref f)) : Cal P w K mg base 2 "parted" ["row", "cuts"] F_p_parted :=
  ⟨f, fd, o_p_parted bt c_p_closed_up Fn, hm, Fn.kp, Fn.binds (ps := ["row", "cuts"]) fun _ _ _ _ _ _ us hl => match us, hl with | [_, _], _ => rfl⟩

theorem k_p_tree_of (bt : Bt mg) (c_p_parted : Cal P w K mg base 2 "parted" ["row", "cuts"] F_p_parted) (c_p_shape_at : Cal P w K mg base 4 "shape_at" ["row", "places"] F_p_shape_at) (c_p_block_cuts : Cal P w K mg base 2 "block_cuts" ["row"] F_p_block_cuts) (c_p_rise_cuts : Cal P w K mg base 1 "rise_cuts" ["row"] F_p_rise_cuts) (g_ONE : ∃ a vs, mg "ONE" = some (.ref a) ∧ KT K a vs ∧ ∀ H S Z, Rps K H S Z [.str "one"] vs) {f : Addr} {fd : FuncData} (Fn : Fun K "tree_of" "tree_of" st_p_tree_of f fd) (hm : mg "tree_of" = some (.ref f)) : Cal P w K mg base 46 "tree_of" ["row"] (F_p_tree_of 41) :=
  cal_rec (G := F_p_tree_of) (L := 5) (fun _ _ _ h => h) hm Fn.kp (Fn.binds (ps := ["row"]) fun _ _ _ _ _ _ us hl => match us, hl with | [_], _ => rfl) (fun n c_p_tree_of => def_ok Fn sc_p_tree_of (n_p_tree_of (n + 1)) (fun cdv A outer s H E hr => d_p_tree_of bt c_p_parted c_p_shape_at c_p_block_cuts c_p_rise_cuts g_ONE c_p_tree_of cdv A outer s f H E hr) (t_p_tree_of n)) 41

theorem o_p_must_be (bt : Bt mg)  {f : Addr} {fd : FuncData} (Fn : Fun K "must_be" "must_be" st_p_must_be f fd) : FnOk P w K mg base CX0 1 f fd ["truth"] (spV K F_p_must_be) :=
  def_ok Fn sc_p_must_be n_p_must_be (fun cdv A outer s H E hr => d_p_must_be bt  cdv A outer s f H E hr) t_p_must_be
theorem k_p_must_be (bt : Bt mg)  {f : Addr} {fd : FuncData} (Fn : Fun K "must_be" "must_be" st_p_must_be f fd) (hm : mg "must_be" = some (.ref f)) : Cal P w K mg base 1 "must_be" ["truth"] F_p_must_be :=
  ⟨f, fd, o_p_must_be bt  Fn, hm, Fn.kp, Fn.binds (ps := ["truth"]) fun _ _ _ _ _ _ us hl => match us, hl with | [_], _ => rfl⟩

theorem o_p_show_row (bt : Bt mg)  {f : Addr} {fd : FuncData} (Fn : Fun K "show_row" "show_row" st_p_show_row f fd) : FnOk P w K mg base CX0 1 f fd ["row"] (spV K F_p_show_row) :=
  def_ok Fn sc_p_show_row n_p_show_row (fun cdv A outer s H E hr => d_p_show_row bt  cdv A outer s f H E hr) t_p_show_row
theorem k_p_show_row (bt : Bt mg)  {f : Addr} {fd : FuncData} (Fn : Fun K "show_row" "show_row" st_p_show_row f fd) (hm : mg "show_row" = some (.ref f)) : Cal P w K mg base 1 "show_row" ["row"] F_p_show_row :=
  ⟨f, fd, o_p_show_row bt  Fn, hm, Fn.kp, Fn.binds (ps := ["row"]) fun _ _ _ _ _ _ us hl => match us, hl with | [_], _ => rfl⟩

theorem k_p_show_tree (bt : Bt mg) (g_ONE : ∃ a vs, mg "ONE" = some (.ref a) ∧ KT K a vs ∧ ∀ H S Z, Rps K H S Z [.str "one"] vs) (g_LINKS : ∃ d, mg "LINKS" = some (.ref d) ∧ KTab K w d [("rise", " + "), ("fall", " - ")]) {f : Addr} {fd : FuncData} (Fn : Fun K "show_tree" "show_tree" st_p_show_tree f fd) (hm : mg "show_tree" = some (.ref f)) : Cal P w K mg base 42 "show_tree" ["tree"] (F_p_show_tree 41) :=
  cal_rec (G := F_p_show_tree) (L := 1) (fun _ _ _ h => h) hm Fn.kp (Fn.binds (ps := ["tree"]) fun _ _ _ _ _ _ us hl => match us, hl with | [_], _ => rfl) (fun n c_p_show_tree => def_ok Fn sc_p_show_tree (n_p_show_tree (n + 1)) (fun cdv A outer s H E hr => d_p_show_tree bt g_ONE g_LINKS c_p_show_tree cdv A outer s f H E hr) (t_p_show_tree n)) 41

theorem o_p_numeral (bt : Bt mg) (c_p_must_be : Cal P w K mg base 1 "must_be" ["truth"] F_p_must_be) (g_FIGURES : ∃ t, mg "FIGURES" = some (.str "0123456789" t)) {f : Addr} {fd : FuncData} (Fn : Fun K "numeral" "numeral" st_p_numeral f fd) : FnOk P w K mg base CX0 2 f fd ["word"] (spV K F_p_numeral) :=
  def_ok Fn sc_p_numeral n_p_numeral (fun cdv A outer s H E hr => d_p_numeral bt c_p_must_be g_FIGURES cdv A outer s f H E hr) t_p_numeral
theorem k_p_numeral (bt : Bt mg) (c_p_must_be : Cal P w K mg base 1 "must_be" ["truth"] F_p_must_be) (g_FIGURES : ∃ t, mg "FIGURES" = some (.str "0123456789" t)) {f : Addr} {fd : FuncData} (Fn : Fun K "numeral" "numeral" st_p_numeral f fd) (hm : mg "numeral" = some (.ref f)) : Cal P w K mg base 2 "numeral" ["word"] F_p_numeral :=
  ⟨f, fd, o_p_numeral bt c_p_must_be g_FIGURES Fn, hm, Fn.kp, Fn.binds (ps := ["word"]) fun _ _ _ _ _ _ us hl => match us, hl with | [_], _ => rfl⟩

theorem o_p_row_read (bt : Bt mg) (c_p_is_row : Cal P w K mg base 2 "is_row" ["thing"] F_p_is_row) (c_p_must_be : Cal P w K mg base 1 "must_be" ["truth"] F_p_must_be) (c_p_numeral : Cal P w K mg base 2 "numeral" ["word"] F_p_numeral) {f : Addr} {fd : FuncData} (Fn : Fun K "row_read" "row_read" st_p_row_read f fd) : FnOk P w K mg base CX0 3 f fd ["text", "link"] (spV K F_p_row_read) :=
  def_ok Fn sc_p_row_read n_p_row_read (fun cdv A outer s H E hr => d_p_row_read bt c_p_is_row c_p_must_be c_p_numeral cdv A outer s f H E hr) t_p_row_read
theorem k_p_row_read (bt : Bt mg) (c_p_is_row : Cal P w K mg base 2 "is_row" ["thing"] F_p_is_row) (c_p_must_be : Cal P w K mg base 1 "must_be" ["truth"] F_p_must_be) (c_p_numeral : Cal P w K mg base 2 "numeral" ["word"] F_p_numeral) {f : Addr} {fd : FuncData} (Fn : Fun K "row_read" "row_read" st_p_row_read f fd) (hm : mg "row_read" = some (.ref f)) : Cal P w K mg base 3 "row_read" ["text", "link"] F_p_row_read :=
  ⟨f, fd, o_p_row_read bt c_p_is_row c_p_must_be c_p_numeral Fn, hm, Fn.kp, Fn.binds (ps := ["text", "link"]) fun _ _ _ _ _ _ us hl => match us, hl with | [_, _], _ => rfl⟩

theorem o_p_read_row (bt : Bt mg) (c_p_row_read : Cal P w K mg base 3 "row_read" ["text", "link"] F_p_row_read) (c_p_must_be : Cal P w K mg base 1 "must_be" ["truth"] F_p_must_be) {f : Addr} {fd : FuncData} (Fn : Fun K "read_row" "read_row" st_p_read_row f fd) : FnOk P w K mg base CX0 4 f fd ["thing"] (spV K F_p_read_row) :=
  def_ok Fn sc_p_read_row n_p_read_row (fun cdv A outer s H E hr => d_p_read_row bt c_p_row_read c_p_must_be cdv A outer s f H E hr) t_p_read_row
theorem k_p_read_row (bt : Bt mg) (c_p_row_read : Cal P w K mg base 3 "row_read" ["text", "link"] F_p_row_read) (c_p_must_be : Cal P w K mg base 1 "must_be" ["truth"] F_p_must_be) {f : Addr} {fd : FuncData} (Fn : Fun K "read_row" "read_row" st_p_read_row f fd) (hm : mg "read_row" = some (.ref f)) : Cal P w K mg base 4 "read_row" ["thing"] F_p_read_row :=
  ⟨f, fd, o_p_read_row bt c_p_row_read c_p_must_be Fn, hm, Fn.kp, Fn.binds (ps := ["thing"]) fun _ _ _ _ _ _ us hl => match us, hl with | [_], _ => rfl⟩

theorem o_p_word_end (bt : Bt mg) (g_FIGURES : ∃ t, mg "FIGURES" = some (.str "0123456789" t)) {f : Addr} {fd : FuncData} (Fn : Fun K "word_end" "word_end" st_p_word_end f fd) : FnOk P w K mg base CX0 1 f fd ["text", "at"] (spV K F_p_word_end) :=
  def_ok Fn sc_p_word_end n_p_word_end (fun cdv A outer s H E hr => d_p_word_end bt g_FIGURES cdv A outer s f H E hr) t_p_word_end
theorem k_p_word_end (bt : Bt mg) (g_FIGURES : ∃ t, mg "FIGURES" = some (.str "0123456789" t)) {f : Addr} {fd : FuncData} (Fn : Fun K "word_end" "word_end" st_p_word_end f fd) (hm : mg "word_end" = some (.ref f)) : Cal P w K mg base 1 "word_end" ["text", "at"] F_p_word_end :=
  ⟨f, fd, o_p_word_end bt g_FIGURES Fn, hm, Fn.kp, Fn.binds (ps := ["text", "at"]) fun _ _ _ _ _ _ us hl => match us, hl with | [_, _], _ => rfl⟩

theorem k_p_read_parts (bt : Bt mg) (c_p_must_be : Cal P w K mg base 1 "must_be" ["truth"] F_p_must_be) (c_p_is_unbroken : Cal P w K mg base 3 "is_unbroken" ["thing"] F_p_is_unbroken) (c_p_row_read : Cal P w K mg base 3 "row_read" ["text", "link"] F_p_row_read) (c_p_word_end : Cal P w K mg base 1 "word_end" ["text", "at"] F_p_word_end) (g_MOST : ∃ t, mg "MOST" = some (.int 40 t)) (g_ONE : ∃ a vs, mg "ONE" = some (.ref a) ∧ KT K a vs ∧ ∀ H S Z, Rps K H S Z [.str "one"] vs) (g_LINKS : ∃ d, mg "LINKS" = some (.ref d) ∧ KTab K w d [("rise", " + "), ("fall", " - ")]) {f : Addr} {fd : FuncData} (Fn : Fun K "read_parts" "read_parts" st_p_read_parts f fd) (hm : mg "read_parts" = some (.ref f)) {f2 : Addr} {fd2 : FuncData} (Fn2 : Fun K "read_part" "read_part" st_p_read_part f2 fd2) (hm2 : mg "read_part" = some (.ref f2)) : Cal P w K mg base 94 "read_parts" ["text", "at", "links", "deep"] (F_p_read_parts 90) :=
  (cal_mut (Gx := F_p_read_parts) (Gy := F_p_read_part) (L := 4) (fun _ _ _ h => h) (fun _ _ _ h => h) hm Fn.kp (Fn.binds (ps := ["text", "at", "links", "deep"]) fun _ _ _ _ _ _ us hl => match us, hl with | [_, _, _, _], _ => rfl) hm2 Fn2.kp (Fn2.binds (ps := ["text", "at", "deep"]) fun _ _ _ _ _ _ us hl => match us, hl with | [_, _, _], _ => rfl) (fun n c_p_read_part => def_ok Fn sc_p_read_parts (n_p_read_parts (n + 1)) (fun cdv A outer s H E hr => d_p_read_parts bt  c_p_read_part cdv A outer s f H E hr) (t_p_read_parts n)) (fun n c_p_read_parts => def_ok Fn2 sc_p_read_part (n_p_read_part (n + 1)) (fun cdv A outer s H E hr => d_p_read_part bt c_p_must_be c_p_is_unbroken c_p_row_read c_p_word_end g_MOST g_ONE g_LINKS c_p_read_parts cdv A outer s f2 H E hr) (t_p_read_part n)) 90).1

theorem k_p_read_part (bt : Bt mg) (c_p_must_be : Cal P w K mg base 1 "must_be" ["truth"] F_p_must_be) (c_p_is_unbroken : Cal P w K mg base 3 "is_unbroken" ["thing"] F_p_is_unbroken) (c_p_row_read : Cal P w K mg base 3 "row_read" ["text", "link"] F_p_row_read) (c_p_word_end : Cal P w K mg base 1 "word_end" ["text", "at"] F_p_word_end) (g_MOST : ∃ t, mg "MOST" = some (.int 40 t)) (g_ONE : ∃ a vs, mg "ONE" = some (.ref a) ∧ KT K a vs ∧ ∀ H S Z, Rps K H S Z [.str "one"] vs) (g_LINKS : ∃ d, mg "LINKS" = some (.ref d) ∧ KTab K w d [("rise", " + "), ("fall", " - ")]) {f : Addr} {fd : FuncData} (Fn : Fun K "read_part" "read_part" st_p_read_part f fd) (hm : mg "read_part" = some (.ref f)) {f2 : Addr} {fd2 : FuncData} (Fn2 : Fun K "read_parts" "read_parts" st_p_read_parts f2 fd2) (hm2 : mg "read_parts" = some (.ref f2)) : Cal P w K mg base 94 "read_part" ["text", "at", "deep"] (F_p_read_part 90) :=
  (cal_mut (Gx := F_p_read_part) (Gy := F_p_read_parts) (L := 4) (fun _ _ _ h => h) (fun _ _ _ h => h) hm Fn.kp (Fn.binds (ps := ["text", "at", "deep"]) fun _ _ _ _ _ _ us hl => match us, hl with | [_, _, _], _ => rfl) hm2 Fn2.kp (Fn2.binds (ps := ["text", "at", "links", "deep"]) fun _ _ _ _ _ _ us hl => match us, hl with | [_, _, _, _], _ => rfl) (fun n c_p_read_parts => def_ok Fn sc_p_read_part (n_p_read_part (n + 1)) (fun cdv A outer s H E hr => d_p_read_part bt c_p_must_be c_p_is_unbroken c_p_row_read c_p_word_end g_MOST g_ONE g_LINKS c_p_read_parts cdv A outer s f H E hr) (t_p_read_part n)) (fun n c_p_read_part => def_ok Fn2 sc_p_read_parts (n_p_read_parts (n + 1)) (fun cdv A outer s H E hr => d_p_read_parts bt  c_p_read_part cdv A outer s f2 H E hr) (t_p_read_parts n)) 90).1

theorem o_p_read_tree (bt : Bt mg) (c_p_is_tree : Cal P w K mg base 107 "is_tree" ["thing"] F_p_is_tree) (c_p_must_be : Cal P w K mg base 1 "must_be" ["truth"] F_p_must_be) (c_p_read_part : Cal P w K mg base 94 "read_part" ["text", "at", "deep"] (F_p_read_part 90)) {f : Addr} {fd : FuncData} (Fn : Fun K "read_tree" "read_tree" st_p_read_tree f fd) : FnOk P w K mg base CX0 108 f fd ["thing"] (spV K F_p_read_tree) :=
  def_ok Fn sc_p_read_tree n_p_read_tree (fun cdv A outer s H E hr => d_p_read_tree bt c_p_is_tree c_p_must_be c_p_read_part cdv A outer s f H E hr) t_p_read_tree
theorem k_p_read_tree (bt : Bt mg) (c_p_is_tree : Cal P w K mg base 107 "is_tree" ["thing"] F_p_is_tree) (c_p_must_be : Cal P w K mg base 1 "must_be" ["truth"] F_p_must_be) (c_p_read_part : Cal P w K mg base 94 "read_part" ["text", "at", "deep"] (F_p_read_part 90)) {f : Addr} {fd : FuncData} (Fn : Fun K "read_tree" "read_tree" st_p_read_tree f fd) (hm : mg "read_tree" = some (.ref f)) : Cal P w K mg base 108 "read_tree" ["thing"] F_p_read_tree :=
  ⟨f, fd, o_p_read_tree bt c_p_is_tree c_p_must_be c_p_read_part Fn, hm, Fn.kp, Fn.binds (ps := ["thing"]) fun _ _ _ _ _ _ us hl => match us, hl with | [_], _ => rfl⟩

theorem o_l_bag (bt : Bt mg)  {f : Addr} {fd : FuncData} (Fn : Fun K "_law_bag" "_law_bag" st_l_bag f fd) : FnOk P w K mg base CX0 1 f fd ["_law_script", "_law_at"] (spV K F_l_bag) :=
  def_ok Fn sc_l_bag n_l_bag (fun cdv A outer s H E hr => d_l_bag bt  cdv A outer s f H E hr) t_l_bag
theorem k_l_bag (bt : Bt mg)  {f : Addr} {fd : FuncData} (Fn : Fun K "_law_bag" "_law_bag" st_l_bag f fd) (hm : mg "_law_bag" = some (.ref f)) : Cal P w K mg base 1 "_law_bag" ["_law_script", "_law_at"] F_l_bag :=
  ⟨f, fd, o_l_bag bt  Fn, hm, Fn.kp, Fn.binds (ps := ["_law_script", "_law_at"]) fun _ _ _ _ _ _ us hl => match us, hl with | [_, _], _ => rfl⟩

theorem o_l_take (bt : Bt mg)  {f : Addr} {fd : FuncData} (Fn : Fun K "_law_take" "_law_take" st_l_take f fd) : FnOk P w K mg base CX0 1 f fd ["_law_bag_here", "_law_many"] (spV K F_l_take) :=
  def_ok Fn sc_l_take n_l_take (fun cdv A outer s H E hr => d_l_take bt  cdv A outer s f H E hr) t_l_take
theorem k_l_take (bt : Bt mg)  {f : Addr} {fd : FuncData} (Fn : Fun K "_law_take" "_law_take" st_l_take f fd) (hm : mg "_law_take" = some (.ref f)) : Cal P w K mg base 1 "_law_take" ["_law_bag_here", "_law_many"] F_l_take :=
  ⟨f, fd, o_l_take bt  Fn, hm, Fn.kp, Fn.binds (ps := ["_law_bag_here", "_law_many"]) fun _ _ _ _ _ _ us hl => match us, hl with | [_, _], _ => rfl⟩

theorem o_l_row (bt : Bt mg) (c_l_take : Cal P w K mg base 1 "_law_take" ["_law_bag_here", "_law_many"] F_l_take) {f : Addr} {fd : FuncData} (Fn : Fun K "_law_row" "_law_row" st_l_row f fd) : FnOk P w K mg base CX0 2 f fd ["_law_bag_here", "_law_n"] (spV K F_l_row) :=
  def_ok Fn sc_l_row n_l_row (fun cdv A outer s H E hr => d_l_row bt c_l_take cdv A outer s f H E hr) t_l_row
theorem k_l_row (bt : Bt mg) (c_l_take : Cal P w K mg base 1 "_law_take" ["_law_bag_here", "_law_many"] F_l_take) {f : Addr} {fd : FuncData} (Fn : Fun K "_law_row" "_law_row" st_l_row f fd) (hm : mg "_law_row" = some (.ref f)) : Cal P w K mg base 2 "_law_row" ["_law_bag_here", "_law_n"] F_l_row :=
  ⟨f, fd, o_l_row bt c_l_take Fn, hm, Fn.kp, Fn.binds (ps := ["_law_bag_here", "_law_n"]) fun _ _ _ _ _ _ us hl => match us, hl with | [_, _], _ => rfl⟩

theorem o_l_blocked (bt : Bt mg)  {f : Addr} {fd : FuncData} (Fn : Fun K "_law_blocked" "_law_blocked" st_l_blocked f fd) : FnOk P w K mg base CX0 1 f fd ["_law_row_here"] (spV K F_l_blocked) :=
  def_ok Fn sc_l_blocked n_l_blocked (fun cdv A outer s H E hr => d_l_blocked bt  cdv A outer s f H E hr) t_l_blocked
theorem k_l_blocked (bt : Bt mg)  {f : Addr} {fd : FuncData} (Fn : Fun K "_law_blocked" "_law_blocked" st_l_blocked f fd) (hm : mg "_law_blocked" = some (.ref f)) : Cal P w K mg base 1 "_law_blocked" ["_law_row_here"] F_l_blocked :=
  ⟨f, fd, o_l_blocked bt  Fn, hm, Fn.kp, Fn.binds (ps := ["_law_row_here"]) fun _ _ _ _ _ _ us hl => match us, hl with | [_], _ => rfl⟩

theorem o_l_unbroken (bt : Bt mg) (c_l_blocked : Cal P w K mg base 1 "_law_blocked" ["_law_row_here"] F_l_blocked) (c_l_take : Cal P w K mg base 1 "_law_take" ["_law_bag_here", "_law_many"] F_l_take) (c_l_row : Cal P w K mg base 2 "_law_row" ["_law_bag_here", "_law_n"] F_l_row) {f : Addr} {fd : FuncData} (Fn : Fun K "_law_unbroken" "_law_unbroken" st_l_unbroken f fd) : FnOk P w K mg base CX0 3 f fd ["_law_bag_here", "_law_most"] (spV K F_l_unbroken) :=
  def_ok Fn sc_l_unbroken n_l_unbroken (fun cdv A outer s H E hr => d_l_unbroken bt c_l_blocked c_l_take c_l_row cdv A outer s f H E hr) t_l_unbroken
theorem k_l_unbroken (bt : Bt mg) (c_l_blocked : Cal P w K mg base 1 "_law_blocked" ["_law_row_here"] F_l_blocked) (c_l_take : Cal P w K mg base 1 "_law_take" ["_law_bag_here", "_law_many"] F_l_take) (c_l_row : Cal P w K mg base 2 "_law_row" ["_law_bag_here", "_law_n"] F_l_row) {f : Addr} {fd : FuncData} (Fn : Fun K "_law_unbroken" "_law_unbroken" st_l_unbroken f fd) (hm : mg "_law_unbroken" = some (.ref f)) : Cal P w K mg base 3 "_law_unbroken" ["_law_bag_here", "_law_most"] F_l_unbroken :=
  ⟨f, fd, o_l_unbroken bt c_l_blocked c_l_take c_l_row Fn, hm, Fn.kp, Fn.binds (ps := ["_law_bag_here", "_law_most"]) fun _ _ _ _ _ _ us hl => match us, hl with | [_, _], _ => rfl⟩

theorem k_l_tree (bt : Bt mg) (c_l_take : Cal P w K mg base 1 "_law_take" ["_law_bag_here", "_law_many"] F_l_take) (c_l_unbroken : Cal P w K mg base 3 "_law_unbroken" ["_law_bag_here", "_law_most"] F_l_unbroken) {f : Addr} {fd : FuncData} (Fn : Fun K "_law_tree" "_law_tree" st_l_tree f fd) (hm : mg "_law_tree" = some (.ref f)) : Cal P w K mg base 45 "_law_tree" ["_law_bag_here", "_law_many", "_law_above"] (F_l_tree 41) :=
  cal_rec (G := F_l_tree) (L := 4) (fun _ _ _ h => h) hm Fn.kp (Fn.binds (ps := ["_law_bag_here", "_law_many", "_law_above"]) fun _ _ _ _ _ _ us hl => match us, hl with | [_, _, _], _ => rfl) (fun n c_l_tree => def_ok Fn sc_l_tree (n_l_tree (n + 1)) (fun cdv A outer s H E hr => d_l_tree bt c_l_take c_l_unbroken c_l_tree cdv A outer s f H E hr) (t_l_tree n)) 41

theorem o_l_greater (bt : Bt mg) (c_l_take : Cal P w K mg base 1 "_law_take" ["_law_bag_here", "_law_many"] F_l_take) (c_l_blocked : Cal P w K mg base 1 "_law_blocked" ["_law_row_here"] F_l_blocked) {f : Addr} {fd : FuncData} (Fn : Fun K "_law_greater" "_law_greater" st_l_greater f fd) : FnOk P w K mg base CX0 2 f fd ["_law_bag_here", "_law_row_here"] (spV K F_l_greater) :=
  def_ok Fn sc_l_greater n_l_greater (fun cdv A outer s H E hr => d_l_greater bt c_l_take c_l_blocked cdv A outer s f H E hr) t_l_greater
theorem k_l_greater (bt : Bt mg) (c_l_take : Cal P w K mg base 1 "_law_take" ["_law_bag_here", "_law_many"] F_l_take) (c_l_blocked : Cal P w K mg base 1 "_law_blocked" ["_law_row_here"] F_l_blocked) {f : Addr} {fd : FuncData} (Fn : Fun K "_law_greater" "_law_greater" st_l_greater f fd) (hm : mg "_law_greater" = some (.ref f)) : Cal P w K mg base 2 "_law_greater" ["_law_bag_here", "_law_row_here"] F_l_greater :=
  ⟨f, fd, o_l_greater bt c_l_take c_l_blocked Fn, hm, Fn.kp, Fn.binds (ps := ["_law_bag_here", "_law_row_here"]) fun _ _ _ _ _ _ us hl => match us, hl with | [_, _], _ => rfl⟩

theorem o_l_any_tree (bt : Bt mg) (c_l_take : Cal P w K mg base 1 "_law_take" ["_law_bag_here", "_law_many"] F_l_take) (c_l_tree : Cal P w K mg base 45 "_law_tree" ["_law_bag_here", "_law_many", "_law_above"] (F_l_tree 41)) (c_l_unbroken : Cal P w K mg base 3 "_law_unbroken" ["_law_bag_here", "_law_most"] F_l_unbroken) (c_l_greater : Cal P w K mg base 2 "_law_greater" ["_law_bag_here", "_law_row_here"] F_l_greater) {f : Addr} {fd : FuncData} (Fn : Fun K "_law_any_tree" "_law_any_tree" st_l_any_tree f fd) : FnOk P w K mg base CX0 46 f fd ["_law_bag_here", "_law_many"] (spV K F_l_any_tree) :=
  def_ok Fn sc_l_any_tree n_l_any_tree (fun cdv A outer s H E hr => d_l_any_tree bt c_l_take c_l_tree c_l_unbroken c_l_greater cdv A outer s f H E hr) t_l_any_tree
theorem k_l_any_tree (bt : Bt mg) (c_l_take : Cal P w K mg base 1 "_law_take" ["_law_bag_here", "_law_many"] F_l_take) (c_l_tree : Cal P w K mg base 45 "_law_tree" ["_law_bag_here", "_law_many", "_law_above"] (F_l_tree 41)) (c_l_unbroken : Cal P w K mg base 3 "_law_unbroken" ["_law_bag_here", "_law_most"] F_l_unbroken) (c_l_greater : Cal P w K mg base 2 "_law_greater" ["_law_bag_here", "_law_row_here"] F_l_greater) {f : Addr} {fd : FuncData} (Fn : Fun K "_law_any_tree" "_law_any_tree" st_l_any_tree f fd) (hm : mg "_law_any_tree" = some (.ref f)) : Cal P w K mg base 46 "_law_any_tree" ["_law_bag_here", "_law_many"] F_l_any_tree :=
  ⟨f, fd, o_l_any_tree bt c_l_take c_l_tree c_l_unbroken c_l_greater Fn, hm, Fn.kp, Fn.binds (ps := ["_law_bag_here", "_law_many"]) fun _ _ _ _ _ _ us hl => match us, hl with | [_, _], _ => rfl⟩

theorem o_l_row_text (bt : Bt mg)  {f : Addr} {fd : FuncData} (Fn : Fun K "_law_row_text" "_law_row_text" st_l_row_text f fd) : FnOk P w K mg base CX0 1 f fd ["_law_row_here"] (spV K F_l_row_text) :=
  def_ok Fn sc_l_row_text n_l_row_text (fun cdv A outer s H E hr => d_l_row_text bt  cdv A outer s f H E hr) t_l_row_text
theorem k_l_row_text (bt : Bt mg)  {f : Addr} {fd : FuncData} (Fn : Fun K "_law_row_text" "_law_row_text" st_l_row_text f fd) (hm : mg "_law_row_text" = some (.ref f)) : Cal P w K mg base 1 "_law_row_text" ["_law_row_here"] F_l_row_text :=
  ⟨f, fd, o_l_row_text bt  Fn, hm, Fn.kp, Fn.binds (ps := ["_law_row_here"]) fun _ _ _ _ _ _ us hl => match us, hl with | [_], _ => rfl⟩

theorem k_l_tree_text (bt : Bt mg)  {f : Addr} {fd : FuncData} (Fn : Fun K "_law_tree_text" "_law_tree_text" st_l_tree_text f fd) (hm : mg "_law_tree_text" = some (.ref f)) : Cal P w K mg base 42 "_law_tree_text" ["_law_tree_here"] (F_l_tree_text 41) :=
  cal_rec (G := F_l_tree_text) (L := 1) (fun _ _ _ h => h) hm Fn.kp (Fn.binds (ps := ["_law_tree_here"]) fun _ _ _ _ _ _ us hl => match us, hl with | [_], _ => rfl) (fun n c_l_tree_text => def_ok Fn sc_l_tree_text (n_l_tree_text (n + 1)) (fun cdv A outer s H E hr => d_l_tree_text bt  c_l_tree_text cdv A outer s f H E hr) (t_l_tree_text n)) 41

theorem o_l_whole (bt : Bt mg)  {f : Addr} {fd : FuncData} (Fn : Fun K "_law_whole" "_law_whole" st_l_whole f fd) : FnOk P w K mg base CX0 1 f fd ["_law_thing"] (spV K F_l_whole) :=
  def_ok Fn sc_l_whole n_l_whole (fun cdv A outer s H E hr => d_l_whole bt  cdv A outer s f H E hr) t_l_whole
theorem k_l_whole (bt : Bt mg)  {f : Addr} {fd : FuncData} (Fn : Fun K "_law_whole" "_law_whole" st_l_whole f fd) (hm : mg "_law_whole" = some (.ref f)) : Cal P w K mg base 1 "_law_whole" ["_law_thing"] F_l_whole :=
  ⟨f, fd, o_l_whole bt  Fn, hm, Fn.kp, Fn.binds (ps := ["_law_thing"]) fun _ _ _ _ _ _ us hl => match us, hl with | [_], _ => rfl⟩

theorem o_l_is_row (bt : Bt mg) (c_l_whole : Cal P w K mg base 1 "_law_whole" ["_law_thing"] F_l_whole) {f : Addr} {fd : FuncData} (Fn : Fun K "_law_is_row" "_law_is_row" st_l_is_row f fd) : FnOk P w K mg base CX0 2 f fd ["_law_thing"] (spV K F_l_is_row) :=
  def_ok Fn sc_l_is_row n_l_is_row (fun cdv A outer s H E hr => d_l_is_row bt c_l_whole cdv A outer s f H E hr) t_l_is_row
theorem k_l_is_row (bt : Bt mg) (c_l_whole : Cal P w K mg base 1 "_law_whole" ["_law_thing"] F_l_whole) {f : Addr} {fd : FuncData} (Fn : Fun K "_law_is_row" "_law_is_row" st_l_is_row f fd) (hm : mg "_law_is_row" = some (.ref f)) : Cal P w K mg base 2 "_law_is_row" ["_law_thing"] F_l_is_row :=
  ⟨f, fd, o_l_is_row bt c_l_whole Fn, hm, Fn.kp, Fn.binds (ps := ["_law_thing"]) fun _ _ _ _ _ _ us hl => match us, hl with | [_], _ => rfl⟩

theorem o_l_is_made (bt : Bt mg) (c_l_is_row : Cal P w K mg base 2 "_law_is_row" ["_law_thing"] F_l_is_row) {f : Addr} {fd : FuncData} (Fn : Fun K "_law_is_made" "_law_is_made" st_l_is_made f fd) : FnOk P w K mg base CX0 3 f fd ["_law_thing"] (spV K F_l_is_made) :=
  def_ok Fn sc_l_is_made n_l_is_made (fun cdv A outer s H E hr => d_l_is_made bt c_l_is_row cdv A outer s f H E hr) t_l_is_made
theorem k_l_is_made (bt : Bt mg) (c_l_is_row : Cal P w K mg base 2 "_law_is_row" ["_law_thing"] F_l_is_row) {f : Addr} {fd : FuncData} (Fn : Fun K "_law_is_made" "_law_is_made" st_l_is_made f fd) (hm : mg "_law_is_made" = some (.ref f)) : Cal P w K mg base 3 "_law_is_made" ["_law_thing"] F_l_is_made :=
  ⟨f, fd, o_l_is_made bt c_l_is_row Fn, hm, Fn.kp, Fn.binds (ps := ["_law_thing"]) fun _ _ _ _ _ _ us hl => match us, hl with | [_], _ => rfl⟩

theorem o_law (bt : Bt mg) (c_p_show_tree : Cal P w K mg base 42 "show_tree" ["tree"] (F_p_show_tree 41)) (c_l_tree_text : Cal P w K mg base 42 "_law_tree_text" ["_law_tree_here"] (F_l_tree_text 41)) (c_p_show_row : Cal P w K mg base 1 "show_row" ["row"] F_p_show_row) (c_l_row_text : Cal P w K mg base 1 "_law_row_text" ["_law_row_here"] F_l_row_text) (c_l_is_made : Cal P w K mg base 3 "_law_is_made" ["_law_thing"] F_l_is_made) (c_l_is_row : Cal P w K mg base 2 "_law_is_row" ["_law_thing"] F_l_is_row) (c_p_read_tree : Cal P w K mg base 108 "read_tree" ["thing"] F_p_read_tree) (c_p_read_row : Cal P w K mg base 4 "read_row" ["thing"] F_p_read_row) (c_p_tree_of : Cal P w K mg base 46 "tree_of" ["row"] (F_p_tree_of 41)) (c_l_take : Cal P w K mg base 1 "_law_take" ["_law_bag_here", "_law_many"] F_l_take) (c_l_any_tree : Cal P w K mg base 46 "_law_any_tree" ["_law_bag_here", "_law_many"] F_l_any_tree) (c_l_row : Cal P w K mg base 2 "_law_row" ["_law_bag_here", "_law_n"] F_l_row) (c_l_bag : Cal P w K mg base 1 "_law_bag" ["_law_script", "_law_at"] F_l_bag) {f : Addr} {fd : FuncData} (Fn : Fun K "law" "law" st_law f fd) : FnOk P w K mg base CX0 109 f fd ["_law_script"] (spV K (F_lw 63)) :=
  def_ok Fn sc_law n_law (fun cdv A outer s H E hr => d_law bt c_p_show_tree c_l_tree_text c_p_show_row c_l_row_text c_l_is_made c_l_is_row c_p_read_tree c_p_read_row c_p_tree_of c_l_take c_l_any_tree c_l_row c_l_bag cdv A outer s f H E hr) t_law

end
theorem all_mk {l : PySem.W.OpenLaw} {w : World} {K : PySem.W.Frag} {h : Heap} {mg : Str → Option Value} {fa  f_p_is_whole f_p_is_from f_p_is_row f_p_closed_up f_p_are_places f_p_shape_at f_p_whole_ends f_p_whole_stretches f_p_is_unbroken f_p_has_parts f_p_is_node f_p_size_of f_p_is_tree f_p_rise_cuts f_p_block_cuts f_p_parted f_p_tree_of f_p_must_be f_p_show_row f_p_show_tree f_p_numeral f_p_row_read f_p_read_row f_p_word_end f_p_read_parts f_p_read_part f_p_read_tree f_l_bag f_l_take f_l_row f_l_blocked f_l_unbroken f_l_tree f_l_greater f_l_any_tree f_l_row_text f_l_tree_text f_l_whole f_l_is_row f_l_is_made f_law : Addr} (X : K.In h) (G : h.Ns mainGlobals mg) (hfa : mg "law" = some (.ref fa))
    {od_p_is_whole an_p_is_whole od_p_is_from an_p_is_from od_p_is_row an_p_is_row od_p_closed_up an_p_closed_up od_p_are_places an_p_are_places od_p_shape_at an_p_shape_at od_p_whole_ends an_p_whole_ends od_p_whole_stretches an_p_whole_stretches od_p_is_unbroken an_p_is_unbroken od_p_has_parts an_p_has_parts od_p_is_node an_p_is_node od_p_size_of an_p_size_of od_p_is_tree an_p_is_tree od_p_rise_cuts an_p_rise_cuts od_p_block_cuts an_p_block_cuts od_p_parted an_p_parted od_p_tree_of an_p_tree_of od_p_must_be an_p_must_be od_p_show_row an_p_show_row od_p_show_tree an_p_show_tree od_p_numeral an_p_numeral od_p_row_read an_p_row_read od_p_read_row an_p_read_row od_p_word_end an_p_word_end od_p_read_parts an_p_read_parts od_p_read_part an_p_read_part od_p_read_tree an_p_read_tree od_l_bag an_l_bag od_l_take an_l_take od_l_row an_l_row od_l_blocked an_l_blocked od_l_unbroken an_l_unbroken od_l_tree an_l_tree od_l_greater an_l_greater od_l_any_tree an_l_any_tree od_l_row_text an_l_row_text od_l_tree_text an_l_tree_text od_l_whole an_l_whole od_l_is_row an_l_is_row od_l_is_made an_l_is_made od_law an_law : Option Addr} {sl_p_is_whole sl_p_is_from sl_p_is_row sl_p_closed_up sl_p_are_places sl_p_shape_at sl_p_whole_ends sl_p_whole_stretches sl_p_is_unbroken sl_p_has_parts sl_p_is_node sl_p_size_of sl_p_is_tree sl_p_rise_cuts sl_p_block_cuts sl_p_parted sl_p_tree_of sl_p_must_be sl_p_show_row sl_p_show_tree sl_p_numeral sl_p_row_read sl_p_read_row sl_p_word_end sl_p_read_parts sl_p_read_part sl_p_read_tree sl_l_bag sl_l_take sl_l_row sl_l_blocked sl_l_unbroken sl_l_tree sl_l_greater sl_l_any_tree sl_l_row_text sl_l_tree_text sl_l_whole sl_l_is_row sl_l_is_made sl_law : Array (Option Value)} {oc_p_is_whole kV_p_is_whole dc_p_is_whole pm_p_is_whole cd_p_is_whole ct_p_is_whole oc_p_is_from kV_p_is_from dc_p_is_from pm_p_is_from cd_p_is_from ct_p_is_from oc_p_is_row kV_p_is_row dc_p_is_row pm_p_is_row cd_p_is_row ct_p_is_row oc_p_closed_up kV_p_closed_up dc_p_closed_up pm_p_closed_up cd_p_closed_up ct_p_closed_up oc_p_are_places kV_p_are_places dc_p_are_places pm_p_are_places cd_p_are_places ct_p_are_places oc_p_shape_at kV_p_shape_at dc_p_shape_at pm_p_shape_at cd_p_shape_at ct_p_shape_at oc_p_whole_ends kV_p_whole_ends dc_p_whole_ends pm_p_whole_ends cd_p_whole_ends ct_p_whole_ends oc_p_whole_stretches kV_p_whole_stretches dc_p_whole_stretches pm_p_whole_stretches cd_p_whole_stretches ct_p_whole_stretches oc_p_is_unbroken kV_p_is_unbroken dc_p_is_unbroken pm_p_is_unbroken cd_p_is_unbroken ct_p_is_unbroken oc_p_has_parts kV_p_has_parts dc_p_has_parts pm_p_has_parts cd_p_has_parts ct_p_has_parts oc_p_is_node kV_p_is_node dc_p_is_node pm_p_is_node cd_p_is_node ct_p_is_node oc_p_size_of kV_p_size_of dc_p_size_of pm_p_size_of cd_p_size_of ct_p_size_of oc_p_is_tree kV_p_is_tree dc_p_is_tree pm_p_is_tree cd_p_is_tree ct_p_is_tree oc_p_rise_cuts kV_p_rise_cuts dc_p_rise_cuts pm_p_rise_cuts cd_p_rise_cuts ct_p_rise_cuts oc_p_block_cuts kV_p_block_cuts dc_p_block_cuts pm_p_block_cuts cd_p_block_cuts ct_p_block_cuts oc_p_parted kV_p_parted dc_p_parted pm_p_parted cd_p_parted ct_p_parted oc_p_tree_of kV_p_tree_of dc_p_tree_of pm_p_tree_of cd_p_tree_of ct_p_tree_of oc_p_must_be kV_p_must_be dc_p_must_be pm_p_must_be cd_p_must_be ct_p_must_be oc_p_show_row kV_p_show_row dc_p_show_row pm_p_show_row cd_p_show_row ct_p_show_row oc_p_show_tree kV_p_show_tree dc_p_show_tree pm_p_show_tree cd_p_show_tree ct_p_show_tree oc_p_numeral kV_p_numeral dc_p_numeral pm_p_numeral cd_p_numeral ct_p_numeral oc_p_row_read kV_p_row_read dc_p_row_read pm_p_row_read cd_p_row_read ct_p_row_read oc_p_read_row kV_p_read_row dc_p_read_row pm_p_read_row cd_p_read_row ct_p_read_row oc_p_word_end kV_p_word_end dc_p_word_end pm_p_word_end cd_p_word_end ct_p_word_end oc_p_read_parts kV_p_read_parts dc_p_read_parts pm_p_read_parts cd_p_read_parts ct_p_read_parts oc_p_read_part kV_p_read_part dc_p_read_part pm_p_read_part cd_p_read_part ct_p_read_part oc_p_read_tree kV_p_read_tree dc_p_read_tree pm_p_read_tree cd_p_read_tree ct_p_read_tree oc_l_bag kV_l_bag dc_l_bag pm_l_bag cd_l_bag ct_l_bag oc_l_take kV_l_take dc_l_take pm_l_take cd_l_take ct_l_take oc_l_row kV_l_row dc_l_row pm_l_row cd_l_row ct_l_row oc_l_blocked kV_l_blocked dc_l_blocked pm_l_blocked cd_l_blocked ct_l_blocked oc_l_unbroken kV_l_unbroken dc_l_unbroken pm_l_unbroken cd_l_unbroken ct_l_unbroken oc_l_tree kV_l_tree dc_l_tree pm_l_tree cd_l_tree ct_l_tree oc_l_greater kV_l_greater dc_l_greater pm_l_greater cd_l_greater ct_l_greater oc_l_any_tree kV_l_any_tree dc_l_any_tree pm_l_any_tree cd_l_any_tree ct_l_any_tree oc_l_row_text kV_l_row_text dc_l_row_text pm_l_row_text cd_l_row_text ct_l_row_text oc_l_tree_text kV_l_tree_text dc_l_tree_text pm_l_tree_text cd_l_tree_text ct_l_tree_text oc_l_whole kV_l_whole dc_l_whole pm_l_whole cd_l_whole ct_l_whole oc_l_is_row kV_l_is_row dc_l_is_row pm_l_is_row cd_l_is_row ct_l_is_row oc_l_is_made kV_l_is_made dc_l_is_made pm_l_is_made cd_l_is_made ct_l_is_made oc_law kV_law dc_law pm_law cd_law ct_law : Value}
    (a_p_is_whole : PySem.W.nsIn K mainGlobals "is_whole" = some (some (.ref f_p_is_whole))) (l_p_is_whole : K.lookup f_p_is_whole = some ⟨oc_p_is_whole, od_p_is_whole, .func (PySem.W.fnOf "is_whole" "is_whole" (defArgs st_p_is_whole) (defBody st_p_is_whole) (defScope st_p_is_whole) .none kV_p_is_whole dc_p_is_whole pm_p_is_whole an_p_is_whole cd_p_is_whole ct_p_is_whole), sl_p_is_whole⟩) (c_p_is_whole : PySem.W.codeIn K cd_p_is_whole "is_whole" = true) (k_p_is_whole : PySem.W.keepIn K (.ref f_p_is_whole) = true)
    (a_p_is_from : PySem.W.nsIn K mainGlobals "is_from" = some (some (.ref f_p_is_from))) (l_p_is_from : K.lookup f_p_is_from = some ⟨oc_p_is_from, od_p_is_from, .func (PySem.W.fnOf "is_from" "is_from" (defArgs st_p_is_from) (defBody st_p_is_from) (defScope st_p_is_from) .none kV_p_is_from dc_p_is_from pm_p_is_from an_p_is_from cd_p_is_from ct_p_is_from), sl_p_is_from⟩) (c_p_is_from : PySem.W.codeIn K cd_p_is_from "is_from" = true) (k_p_is_from : PySem.W.keepIn K (.ref f_p_is_from) = true)
    (a_p_is_row : PySem.W.nsIn K mainGlobals "is_row" = some (some (.ref f_p_is_row))) (l_p_is_row : K.lookup f_p_is_row = some ⟨oc_p_is_row, od_p_is_row, .func (PySem.W.fnOf "is_row" "is_row" (defArgs st_p_is_row) (defBody st_p_is_row) (defScope st_p_is_row) .none kV_p_is_row dc_p_is_row pm_p_is_row an_p_is_row cd_p_is_row ct_p_is_row), sl_p_is_row⟩) (c_p_is_row : PySem.W.codeIn K cd_p_is_row "is_row" = true) (k_p_is_row : PySem.W.keepIn K (.ref f_p_is_row) = true)
    (a_p_closed_up : PySem.W.nsIn K mainGlobals "closed_up" = some (some (.ref f_p_closed_up))) (l_p_closed_up : K.lookup f_p_closed_up = some ⟨oc_p_closed_up, od_p_closed_up, .func (PySem.W.fnOf "closed_up" "closed_up" (defArgs st_p_closed_up) (defBody st_p_closed_up) (defScope st_p_closed_up) .none kV_p_closed_up dc_p_closed_up pm_p_closed_up an_p_closed_up cd_p_closed_up ct_p_closed_up), sl_p_closed_up⟩) (c_p_closed_up : PySem.W.codeIn K cd_p_closed_up "closed_up" = true) (k_p_closed_up : PySem.W.keepIn K (.ref f_p_closed_up) = true)
    (a_p_are_places : PySem.W.nsIn K mainGlobals "are_places" = some (some (.ref f_p_are_places))) (l_p_are_places : K.lookup f_p_are_places = some ⟨oc_p_are_places, od_p_are_places, .func (PySem.W.fnOf "are_places" "are_places" (defArgs st_p_are_places) (defBody st_p_are_places) (defScope st_p_are_places) .none kV_p_are_places dc_p_are_places pm_p_are_places an_p_are_places cd_p_are_places ct_p_are_places), sl_p_are_places⟩) (c_p_are_places : PySem.W.codeIn K cd_p_are_places "are_places" = true) (k_p_are_places : PySem.W.keepIn K (.ref f_p_are_places) = true)
    (a_p_shape_at : PySem.W.nsIn K mainGlobals "shape_at" = some (some (.ref f_p_shape_at))) (l_p_shape_at : K.lookup f_p_shape_at = some ⟨oc_p_shape_at, od_p_shape_at, .func (PySem.W.fnOf "shape_at" "shape_at" (defArgs st_p_shape_at) (defBody st_p_shape_at) (defScope st_p_shape_at) .none kV_p_shape_at dc_p_shape_at pm_p_shape_at an_p_shape_at cd_p_shape_at ct_p_shape_at), sl_p_shape_at⟩) (c_p_shape_at : PySem.W.codeIn K cd_p_shape_at "shape_at" = true) (k_p_shape_at : PySem.W.keepIn K (.ref f_p_shape_at) = true)
    (a_p_whole_ends : PySem.W.nsIn K mainGlobals "whole_ends" = some (some (.ref f_p_whole_ends))) (l_p_whole_ends : K.lookup f_p_whole_ends = some ⟨oc_p_whole_ends, od_p_whole_ends, .func (PySem.W.fnOf "whole_ends" "whole_ends" (defArgs st_p_whole_ends) (defBody st_p_whole_ends) (defScope st_p_whole_ends) .none kV_p_whole_ends dc_p_whole_ends pm_p_whole_ends an_p_whole_ends cd_p_whole_ends ct_p_whole_ends), sl_p_whole_ends⟩) (c_p_whole_ends : PySem.W.codeIn K cd_p_whole_ends "whole_ends" = true) (k_p_whole_ends : PySem.W.keepIn K (.ref f_p_whole_ends) = true)
    (a_p_whole_stretches : PySem.W.nsIn K mainGlobals "whole_stretches" = some (some (.ref f_p_whole_stretches))) (l_p_whole_stretches : K.lookup f_p_whole_stretches = some ⟨oc_p_whole_stretches, od_p_whole_stretches, .func (PySem.W.fnOf "whole_stretches" "whole_stretches" (defArgs st_p_whole_stretches) (defBody st_p_whole_stretches) (defScope st_p_whole_stretches) .none kV_p_whole_stretches dc_p_whole_stretches pm_p_whole_stretches an_p_whole_stretches cd_p_whole_stretches ct_p_whole_stretches), sl_p_whole_stretches⟩) (c_p_whole_stretches : PySem.W.codeIn K cd_p_whole_stretches "whole_stretches" = true) (k_p_whole_stretches : PySem.W.keepIn K (.ref f_p_whole_stretches) = true)
    (a_p_is_unbroken : PySem.W.nsIn K mainGlobals "is_unbroken" = some (some (.ref f_p_is_unbroken))) (l_p_is_unbroken : K.lookup f_p_is_unbroken = some ⟨oc_p_is_unbroken, od_p_is_unbroken, .func (PySem.W.fnOf "is_unbroken" "is_unbroken" (defArgs st_p_is_unbroken) (defBody st_p_is_unbroken) (defScope st_p_is_unbroken) .none kV_p_is_unbroken dc_p_is_unbroken pm_p_is_unbroken an_p_is_unbroken cd_p_is_unbroken ct_p_is_unbroken), sl_p_is_unbroken⟩) (c_p_is_unbroken : PySem.W.codeIn K cd_p_is_unbroken "is_unbroken" = true) (k_p_is_unbroken : PySem.W.keepIn K (.ref f_p_is_unbroken) = true)
    (a_p_has_parts : PySem.W.nsIn K mainGlobals "has_parts" = some (some (.ref f_p_has_parts))) (l_p_has_parts : K.lookup f_p_has_parts = some ⟨oc_p_has_parts, od_p_has_parts, .func (PySem.W.fnOf "has_parts" "has_parts" (defArgs st_p_has_parts) (defBody st_p_has_parts) (defScope st_p_has_parts) .none kV_p_has_parts dc_p_has_parts pm_p_has_parts an_p_has_parts cd_p_has_parts ct_p_has_parts), sl_p_has_parts⟩) (c_p_has_parts : PySem.W.codeIn K cd_p_has_parts "has_parts" = true) (k_p_has_parts : PySem.W.keepIn K (.ref f_p_has_parts) = true)
    (a_p_is_node : PySem.W.nsIn K mainGlobals "is_node" = some (some (.ref f_p_is_node))) (l_p_is_node : K.lookup f_p_is_node = some ⟨oc_p_is_node, od_p_is_node, .func (PySem.W.fnOf "is_node" "is_node" (defArgs st_p_is_node) (defBody st_p_is_node) (defScope st_p_is_node) .none kV_p_is_node dc_p_is_node pm_p_is_node an_p_is_node cd_p_is_node ct_p_is_node), sl_p_is_node⟩) (c_p_is_node : PySem.W.codeIn K cd_p_is_node "is_node" = true) (k_p_is_node : PySem.W.keepIn K (.ref f_p_is_node) = true)
    (a_p_size_of : PySem.W.nsIn K mainGlobals "size_of" = some (some (.ref f_p_size_of))) (l_p_size_of : K.lookup f_p_size_of = some ⟨oc_p_size_of, od_p_size_of, .func (PySem.W.fnOf "size_of" "size_of" (defArgs st_p_size_of) (defBody st_p_size_of) (defScope st_p_size_of) .none kV_p_size_of dc_p_size_of pm_p_size_of an_p_size_of cd_p_size_of ct_p_size_of), sl_p_size_of⟩) (c_p_size_of : PySem.W.codeIn K cd_p_size_of "size_of" = true) (k_p_size_of : PySem.W.keepIn K (.ref f_p_size_of) = true)
    (a_p_is_tree : PySem.W.nsIn K mainGlobals "is_tree" = some (some (.ref f_p_is_tree))) (l_p_is_tree : K.lookup f_p_is_tree = some ⟨oc_p_is_tree, od_p_is_tree, .func (PySem.W.fnOf "is_tree" "is_tree" (defArgs st_p_is_tree) (defBody st_p_is_tree) (defScope st_p_is_tree) .none kV_p_is_tree dc_p_is_tree pm_p_is_tree an_p_is_tree cd_p_is_tree ct_p_is_tree), sl_p_is_tree⟩) (c_p_is_tree : PySem.W.codeIn K cd_p_is_tree "is_tree" = true) (k_p_is_tree : PySem.W.keepIn K (.ref f_p_is_tree) = true)
    (a_p_rise_cuts : PySem.W.nsIn K mainGlobals "rise_cuts" = some (some (.ref f_p_rise_cuts))) (l_p_rise_cuts : K.lookup f_p_rise_cuts = some ⟨oc_p_rise_cuts, od_p_rise_cuts, .func (PySem.W.fnOf "rise_cuts" "rise_cuts" (defArgs st_p_rise_cuts) (defBody st_p_rise_cuts) (defScope st_p_rise_cuts) .none kV_p_rise_cuts dc_p_rise_cuts pm_p_rise_cuts an_p_rise_cuts cd_p_rise_cuts ct_p_rise_cuts), sl_p_rise_cuts⟩) (c_p_rise_cuts : PySem.W.codeIn K cd_p_rise_cuts "rise_cuts" = true) (k_p_rise_cuts : PySem.W.keepIn K (.ref f_p_rise_cuts) = true)
    (a_p_block_cuts : PySem.W.nsIn K mainGlobals "block_cuts" = some (some (.ref f_p_block_cuts))) (l_p_block_cuts : K.lookup f_p_block_cuts = some ⟨oc_p_block_cuts, od_p_block_cuts, .func (PySem.W.fnOf "block_cuts" "block_cuts" (defArgs st_p_block_cuts) (defBody st_p_block_cuts) (defScope st_p_block_cuts) .none kV_p_block_cuts dc_p_block_cuts pm_p_block_cuts an_p_block_cuts cd_p_block_cuts ct_p_block_cuts), sl_p_block_cuts⟩) (c_p_block_cuts : PySem.W.codeIn K cd_p_block_cuts "block_cuts" = true) (k_p_block_cuts : PySem.W.keepIn K (.ref f_p_block_cuts) = true)
    (a_p_parted : PySem.W.nsIn K mainGlobals "parted" = some (some (.ref f_p_parted))) (l_p_parted : K.lookup f_p_parted = some ⟨oc_p_parted, od_p_parted, .func (PySem.W.fnOf "parted" "parted" (defArgs st_p_parted) (defBody st_p_parted) (defScope st_p_parted) .none kV_p_parted dc_p_parted pm_p_parted an_p_parted cd_p_parted ct_p_parted), sl_p_parted⟩) (c_p_parted : PySem.W.codeIn K cd_p_parted "parted" = true) (k_p_parted : PySem.W.keepIn K (.ref f_p_parted) = true)
    (a_p_tree_of : PySem.W.nsIn K mainGlobals "tree_of" = some (some (.ref f_p_tree_of))) (l_p_tree_of : K.lookup f_p_tree_of = some ⟨oc_p_tree_of, od_p_tree_of, .func (PySem.W.fnOf "tree_of" "tree_of" (defArgs st_p_tree_of) (defBody st_p_tree_of) (defScope st_p_tree_of) .none kV_p_tree_of dc_p_tree_of pm_p_tree_of an_p_tree_of cd_p_tree_of ct_p_tree_of), sl_p_tree_of⟩) (c_p_tree_of : PySem.W.codeIn K cd_p_tree_of "tree_of" = true) (k_p_tree_of : PySem.W.keepIn K (.ref f_p_tree_of) = true)
    (a_p_must_be : PySem.W.nsIn K mainGlobals "must_be" = some (some (.ref f_p_must_be))) (l_p_must_be : K.lookup f_p_must_be = some ⟨oc_p_must_be, od_p_must_be, .func (PySem.W.fnOf "must_be" "must_be" (defArgs st_p_must_be) (defBody st_p_must_be) (defScope st_p_must_be) .none kV_p_must_be dc_p_must_be pm_p_must_be an_p_must_be cd_p_must_be ct_p_must_be), sl_p_must_be⟩) (c_p_must_be : PySem.W.codeIn K cd_p_must_be "must_be" = true) (k_p_must_be : PySem.W.keepIn K (.ref f_p_must_be) = true)
    (a_p_show_row : PySem.W.nsIn K mainGlobals "show_row" = some (some (.ref f_p_show_row))) (l_p_show_row : K.lookup f_p_show_row = some ⟨oc_p_show_row, od_p_show_row, .func (PySem.W.fnOf "show_row" "show_row" (defArgs st_p_show_row) (defBody st_p_show_row) (defScope st_p_show_row) .none kV_p_show_row dc_p_show_row pm_p_show_row an_p_show_row cd_p_show_row ct_p_show_row), sl_p_show_row⟩) (c_p_show_row : PySem.W.codeIn K cd_p_show_row "show_row" = true) (k_p_show_row : PySem.W.keepIn K (.ref f_p_show_row) = true)
    (a_p_show_tree : PySem.W.nsIn K mainGlobals "show_tree" = some (some (.ref f_p_show_tree))) (l_p_show_tree : K.lookup f_p_show_tree = some ⟨oc_p_show_tree, od_p_show_tree, .func (PySem.W.fnOf "show_tree" "show_tree" (defArgs st_p_show_tree) (defBody st_p_show_tree) (defScope st_p_show_tree) .none kV_p_show_tree dc_p_show_tree pm_p_show_tree an_p_show_tree cd_p_show_tree ct_p_show_tree), sl_p_show_tree⟩) (c_p_show_tree : PySem.W.codeIn K cd_p_show_tree "show_tree" = true) (k_p_show_tree : PySem.W.keepIn K (.ref f_p_show_tree) = true)
    (a_p_numeral : PySem.W.nsIn K mainGlobals "numeral" = some (some (.ref f_p_numeral))) (l_p_numeral : K.lookup f_p_numeral = some ⟨oc_p_numeral, od_p_numeral, .func (PySem.W.fnOf "numeral" "numeral" (defArgs st_p_numeral) (defBody st_p_numeral) (defScope st_p_numeral) .none kV_p_numeral dc_p_numeral pm_p_numeral an_p_numeral cd_p_numeral ct_p_numeral), sl_p_numeral⟩) (c_p_numeral : PySem.W.codeIn K cd_p_numeral "numeral" = true) (k_p_numeral : PySem.W.keepIn K (.ref f_p_numeral) = true)
    (a_p_row_read : PySem.W.nsIn K mainGlobals "row_read" = some (some (.ref f_p_row_read))) (l_p_row_read : K.lookup f_p_row_read = some ⟨oc_p_row_read, od_p_row_read, .func (PySem.W.fnOf "row_read" "row_read" (defArgs st_p_row_read) (defBody st_p_row_read) (defScope st_p_row_read) .none kV_p_row_read dc_p_row_read pm_p_row_read an_p_row_read cd_p_row_read ct_p_row_read), sl_p_row_read⟩) (c_p_row_read : PySem.W.codeIn K cd_p_row_read "row_read" = true) (k_p_row_read : PySem.W.keepIn K (.ref f_p_row_read) = true)
    (a_p_read_row : PySem.W.nsIn K mainGlobals "read_row" = some (some (.ref f_p_read_row))) (l_p_read_row : K.lookup f_p_read_row = some ⟨oc_p_read_row, od_p_read_row, .func (PySem.W.fnOf "read_row" "read_row" (defArgs st_p_read_row) (defBody st_p_read_row) (defScope st_p_read_row) .none kV_p_read_row dc_p_read_row pm_p_read_row an_p_read_row cd_p_read_row ct_p_read_row), sl_p_read_row⟩) (c_p_read_row : PySem.W.codeIn K cd_p_read_row "read_row" = true) (k_p_read_row : PySem.W.keepIn K (.ref f_p_read_row) = true)
    (a_p_word_end : PySem.W.nsIn K mainGlobals "word_end" = some (some (.ref f_p_word_end))) (l_p_word_end : K.lookup f_p_word_end = some ⟨oc_p_word_end, od_p_word_end, .func (PySem.W.fnOf "word_end" "word_end" (defArgs st_p_word_end) (defBody st_p_word_end) (defScope st_p_word_end) .none kV_p_word_end dc_p_word_end pm_p_word_end an_p_word_end cd_p_word_end ct_p_word_end), sl_p_word_end⟩) (c_p_word_end : PySem.W.codeIn K cd_p_word_end "word_end" = true) (k_p_word_end : PySem.W.keepIn K (.ref f_p_word_end) = true)
    (a_p_read_parts : PySem.W.nsIn K mainGlobals "read_parts" = some (some (.ref f_p_read_parts))) (l_p_read_parts : K.lookup f_p_read_parts = some ⟨oc_p_read_parts, od_p_read_parts, .func (PySem.W.fnOf "read_parts" "read_parts" (defArgs st_p_read_parts) (defBody st_p_read_parts) (defScope st_p_read_parts) .none kV_p_read_parts dc_p_read_parts pm_p_read_parts an_p_read_parts cd_p_read_parts ct_p_read_parts), sl_p_read_parts⟩) (c_p_read_parts : PySem.W.codeIn K cd_p_read_parts "read_parts" = true) (k_p_read_parts : PySem.W.keepIn K (.ref f_p_read_parts) = true)
    (a_p_read_part : PySem.W.nsIn K mainGlobals "read_part" = some (some (.ref f_p_read_part))) (l_p_read_part : K.lookup f_p_read_part = some ⟨oc_p_read_part, od_p_read_part, .func (PySem.W.fnOf "read_part" "read_part" (defArgs st_p_read_part) (defBody st_p_read_part) (defScope st_p_read_part) .none kV_p_read_part dc_p_read_part pm_p_read_part an_p_read_part cd_p_read_part ct_p_read_part), sl_p_read_part⟩) (c_p_read_part : PySem.W.codeIn K cd_p_read_part "read_part" = true) (k_p_read_part : PySem.W.keepIn K (.ref f_p_read_part) = true)
    (a_p_read_tree : PySem.W.nsIn K mainGlobals "read_tree" = some (some (.ref f_p_read_tree))) (l_p_read_tree : K.lookup f_p_read_tree = some ⟨oc_p_read_tree, od_p_read_tree, .func (PySem.W.fnOf "read_tree" "read_tree" (defArgs st_p_read_tree) (defBody st_p_read_tree) (defScope st_p_read_tree) .none kV_p_read_tree dc_p_read_tree pm_p_read_tree an_p_read_tree cd_p_read_tree ct_p_read_tree), sl_p_read_tree⟩) (c_p_read_tree : PySem.W.codeIn K cd_p_read_tree "read_tree" = true) (k_p_read_tree : PySem.W.keepIn K (.ref f_p_read_tree) = true)
    (a_l_bag : PySem.W.nsIn K mainGlobals "_law_bag" = some (some (.ref f_l_bag))) (l_l_bag : K.lookup f_l_bag = some ⟨oc_l_bag, od_l_bag, .func (PySem.W.fnOf "_law_bag" "_law_bag" (defArgs st_l_bag) (defBody st_l_bag) (defScope st_l_bag) .none kV_l_bag dc_l_bag pm_l_bag an_l_bag cd_l_bag ct_l_bag), sl_l_bag⟩) (c_l_bag : PySem.W.codeIn K cd_l_bag "_law_bag" = true) (k_l_bag : PySem.W.keepIn K (.ref f_l_bag) = true)
    (a_l_take : PySem.W.nsIn K mainGlobals "_law_take" = some (some (.ref f_l_take))) (l_l_take : K.lookup f_l_take = some ⟨oc_l_take, od_l_take, .func (PySem.W.fnOf "_law_take" "_law_take" (defArgs st_l_take) (defBody st_l_take) (defScope st_l_take) .none kV_l_take dc_l_take pm_l_take an_l_take cd_l_take ct_l_take), sl_l_take⟩) (c_l_take : PySem.W.codeIn K cd_l_take "_law_take" = true) (k_l_take : PySem.W.keepIn K (.ref f_l_take) = true)
    (a_l_row : PySem.W.nsIn K mainGlobals "_law_row" = some (some (.ref f_l_row))) (l_l_row : K.lookup f_l_row = some ⟨oc_l_row, od_l_row, .func (PySem.W.fnOf "_law_row" "_law_row" (defArgs st_l_row) (defBody st_l_row) (defScope st_l_row) .none kV_l_row dc_l_row pm_l_row an_l_row cd_l_row ct_l_row), sl_l_row⟩) (c_l_row : PySem.W.codeIn K cd_l_row "_law_row" = true) (k_l_row : PySem.W.keepIn K (.ref f_l_row) = true)
    (a_l_blocked : PySem.W.nsIn K mainGlobals "_law_blocked" = some (some (.ref f_l_blocked))) (l_l_blocked : K.lookup f_l_blocked = some ⟨oc_l_blocked, od_l_blocked, .func (PySem.W.fnOf "_law_blocked" "_law_blocked" (defArgs st_l_blocked) (defBody st_l_blocked) (defScope st_l_blocked) .none kV_l_blocked dc_l_blocked pm_l_blocked an_l_blocked cd_l_blocked ct_l_blocked), sl_l_blocked⟩) (c_l_blocked : PySem.W.codeIn K cd_l_blocked "_law_blocked" = true) (k_l_blocked : PySem.W.keepIn K (.ref f_l_blocked) = true)
    (a_l_unbroken : PySem.W.nsIn K mainGlobals "_law_unbroken" = some (some (.ref f_l_unbroken))) (l_l_unbroken : K.lookup f_l_unbroken = some ⟨oc_l_unbroken, od_l_unbroken, .func (PySem.W.fnOf "_law_unbroken" "_law_unbroken" (defArgs st_l_unbroken) (defBody st_l_unbroken) (defScope st_l_unbroken) .none kV_l_unbroken dc_l_unbroken pm_l_unbroken an_l_unbroken cd_l_unbroken ct_l_unbroken), sl_l_unbroken⟩) (c_l_unbroken : PySem.W.codeIn K cd_l_unbroken "_law_unbroken" = true) (k_l_unbroken : PySem.W.keepIn K (.ref f_l_unbroken) = true)
    (a_l_tree : PySem.W.nsIn K mainGlobals "_law_tree" = some (some (.ref f_l_tree))) (l_l_tree : K.lookup f_l_tree = some ⟨oc_l_tree, od_l_tree, .func (PySem.W.fnOf "_law_tree" "_law_tree" (defArgs st_l_tree) (defBody st_l_tree) (defScope st_l_tree) .none kV_l_tree dc_l_tree pm_l_tree an_l_tree cd_l_tree ct_l_tree), sl_l_tree⟩) (c_l_tree : PySem.W.codeIn K cd_l_tree "_law_tree" = true) (k_l_tree : PySem.W.keepIn K (.ref f_l_tree) = true)
    (a_l_greater : PySem.W.nsIn K mainGlobals "_law_greater" = some (some (.ref f_l_greater))) (l_l_greater : K.lookup f_l_greater = some ⟨oc_l_greater, od_l_greater, .func (PySem.W.fnOf "_law_greater" "_law_greater" (defArgs st_l_greater) (defBody st_l_greater) (defScope st_l_greater) .none kV_l_greater dc_l_greater pm_l_greater an_l_greater cd_l_greater ct_l_greater), sl_l_greater⟩) (c_l_greater : PySem.W.codeIn K cd_l_greater "_law_greater" = true) (k_l_greater : PySem.W.keepIn K (.ref f_l_greater) = true)
    (a_l_any_tree : PySem.W.nsIn K mainGlobals "_law_any_tree" = some (some (.ref f_l_any_tree))) (l_l_any_tree : K.lookup f_l_any_tree = some ⟨oc_l_any_tree, od_l_any_tree, .func (PySem.W.fnOf "_law_any_tree" "_law_any_tree" (defArgs st_l_any_tree) (defBody st_l_any_tree) (defScope st_l_any_tree) .none kV_l_any_tree dc_l_any_tree pm_l_any_tree an_l_any_tree cd_l_any_tree ct_l_any_tree), sl_l_any_tree⟩) (c_l_any_tree : PySem.W.codeIn K cd_l_any_tree "_law_any_tree" = true) (k_l_any_tree : PySem.W.keepIn K (.ref f_l_any_tree) = true)
    (a_l_row_text : PySem.W.nsIn K mainGlobals "_law_row_text" = some (some (.ref f_l_row_text))) (l_l_row_text : K.lookup f_l_row_text = some ⟨oc_l_row_text, od_l_row_text, .func (PySem.W.fnOf "_law_row_text" "_law_row_text" (defArgs st_l_row_text) (defBody st_l_row_text) (defScope st_l_row_text) .none kV_l_row_text dc_l_row_text pm_l_row_text an_l_row_text cd_l_row_text ct_l_row_text), sl_l_row_text⟩) (c_l_row_text : PySem.W.codeIn K cd_l_row_text "_law_row_text" = true) (k_l_row_text : PySem.W.keepIn K (.ref f_l_row_text) = true)
    (a_l_tree_text : PySem.W.nsIn K mainGlobals "_law_tree_text" = some (some (.ref f_l_tree_text))) (l_l_tree_text : K.lookup f_l_tree_text = some ⟨oc_l_tree_text, od_l_tree_text, .func (PySem.W.fnOf "_law_tree_text" "_law_tree_text" (defArgs st_l_tree_text) (defBody st_l_tree_text) (defScope st_l_tree_text) .none kV_l_tree_text dc_l_tree_text pm_l_tree_text an_l_tree_text cd_l_tree_text ct_l_tree_text), sl_l_tree_text⟩) (c_l_tree_text : PySem.W.codeIn K cd_l_tree_text "_law_tree_text" = true) (k_l_tree_text : PySem.W.keepIn K (.ref f_l_tree_text) = true)
    (a_l_whole : PySem.W.nsIn K mainGlobals "_law_whole" = some (some (.ref f_l_whole))) (l_l_whole : K.lookup f_l_whole = some ⟨oc_l_whole, od_l_whole, .func (PySem.W.fnOf "_law_whole" "_law_whole" (defArgs st_l_whole) (defBody st_l_whole) (defScope st_l_whole) .none kV_l_whole dc_l_whole pm_l_whole an_l_whole cd_l_whole ct_l_whole), sl_l_whole⟩) (c_l_whole : PySem.W.codeIn K cd_l_whole "_law_whole" = true) (k_l_whole : PySem.W.keepIn K (.ref f_l_whole) = true)
    (a_l_is_row : PySem.W.nsIn K mainGlobals "_law_is_row" = some (some (.ref f_l_is_row))) (l_l_is_row : K.lookup f_l_is_row = some ⟨oc_l_is_row, od_l_is_row, .func (PySem.W.fnOf "_law_is_row" "_law_is_row" (defArgs st_l_is_row) (defBody st_l_is_row) (defScope st_l_is_row) .none kV_l_is_row dc_l_is_row pm_l_is_row an_l_is_row cd_l_is_row ct_l_is_row), sl_l_is_row⟩) (c_l_is_row : PySem.W.codeIn K cd_l_is_row "_law_is_row" = true) (k_l_is_row : PySem.W.keepIn K (.ref f_l_is_row) = true)
    (a_l_is_made : PySem.W.nsIn K mainGlobals "_law_is_made" = some (some (.ref f_l_is_made))) (l_l_is_made : K.lookup f_l_is_made = some ⟨oc_l_is_made, od_l_is_made, .func (PySem.W.fnOf "_law_is_made" "_law_is_made" (defArgs st_l_is_made) (defBody st_l_is_made) (defScope st_l_is_made) .none kV_l_is_made dc_l_is_made pm_l_is_made an_l_is_made cd_l_is_made ct_l_is_made), sl_l_is_made⟩) (c_l_is_made : PySem.W.codeIn K cd_l_is_made "_law_is_made" = true) (k_l_is_made : PySem.W.keepIn K (.ref f_l_is_made) = true)
    (a_law : PySem.W.nsIn K mainGlobals "law" = some (some (.ref f_law))) (l_law : K.lookup f_law = some ⟨oc_law, od_law, .func (PySem.W.fnOf "law" "law" (defArgs st_law) (defBody st_law) (defScope st_law) .none kV_law dc_law pm_law an_law cd_law ct_law), sl_law⟩) (c_law : PySem.W.codeIn K cd_law "law" = true) (k_law : PySem.W.keepIn K (.ref f_law) = true)
    {t_MOST t_FIGURES : Tok} (y_MOST : PySem.W.nsIn K mainGlobals "MOST" = some (some (.int 40 t_MOST))) (y_FIGURES : PySem.W.nsIn K mainGlobals "FIGURES" = some (some (.str "0123456789" t_FIGURES)))
    {ga_ONE : Addr} {gn_ONE : Nat} {gs_ONE : Array (Option Value)} {gt_ONE_0 : Tok} (y_ONE : PySem.W.nsIn K mainGlobals "ONE" = some (some (.ref ga_ONE))) (ly_ONE : K.lookup ga_ONE = some ⟨.type "tuple", none, .seq #[.str "one" gt_ONE_0] gn_ONE, gs_ONE⟩)
    {ga_RUNS : Addr} {gn_RUNS : Nat} {gs_RUNS : Array (Option Value)} {gt_RUNS_0 gt_RUNS_1 : Tok} (y_RUNS : PySem.W.nsIn K mainGlobals "RUNS" = some (some (.ref ga_RUNS))) (ly_RUNS : K.lookup ga_RUNS = some ⟨.type "tuple", none, .seq #[.str "rise" gt_RUNS_0, .str "fall" gt_RUNS_1] gn_RUNS, gs_RUNS⟩)
    {kd_LINKS : Addr} {ke_LINKS : Array DictEntry} {kn_LINKS : Nat} {kt_LINKS_0 kt_LINKS_1 : Tok} (y_LINKS : PySem.W.nsIn K mainGlobals "LINKS" = some (some (.ref kd_LINKS))) (kl_LINKS : K.lookup kd_LINKS = some ⟨.type "dict", none, .dict ke_LINKS kn_LINKS, #[]⟩) (kq_LINKS : PySem.W.KeysLit w.params ke_LINKS.toList) (ki_LINKS_0 : PySem.W.nsIn K kd_LINKS "rise" = some (some (.str " + " kt_LINKS_0))) (ki_LINKS_1 : PySem.W.nsIn K kd_LINKS "fall" = some (some (.str " - " kt_LINKS_1)))
    (z_len : PySem.W.nsIn K mainGlobals "len" = some none) (z_range : PySem.W.nsIn K mainGlobals "range" = some none) (z_enumerate : PySem.W.nsIn K mainGlobals "enumerate" = some none) (z_zip : PySem.W.nsIn K mainGlobals "zip" = some none) (z_abs : PySem.W.nsIn K mainGlobals "abs" = some none) (z_max : PySem.W.nsIn K mainGlobals "max" = some none) (z_min : PySem.W.nsIn K mainGlobals "min" = some none) (z_int : PySem.W.nsIn K mainGlobals "int" = some none) (z_bool : PySem.W.nsIn K mainGlobals "bool" = some none) (z_str : PySem.W.nsIn K mainGlobals "str" = some none) (z_list : PySem.W.nsIn K mainGlobals "list" = some none) (z_tuple : PySem.W.nsIn K mainGlobals "tuple" = some none) (z_set : PySem.W.nsIn K mainGlobals "set" = some none) (z_sum : PySem.W.nsIn K mainGlobals "sum" = some none) (z_all : PySem.W.nsIn K mainGlobals "all" = some none) (z_any : PySem.W.nsIn K mainGlobals "any" = some none) (z_sorted : PySem.W.nsIn K mainGlobals "sorted" = some none) (z_isinstance : PySem.W.nsIn K mainGlobals "isinstance" = some none) (z_reversed : PySem.W.nsIn K mainGlobals "reversed" = some none) (z_divmod : PySem.W.nsIn K mainGlobals "divmod" = some none) (z_repr : PySem.W.nsIn K mainGlobals "repr" = some none) (z_dict : PySem.W.nsIn K mainGlobals "dict" = some none) :
    ∃ fd : FuncData, (∀ (s : Shared) (v : Value), BindsTo s fd ⟨[v], []⟩ [("_law_script", v)]) ∧ ∀ base : Heap, K.In base → base.Ns mainGlobals mg → FnOk l.prog w K mg base CX0 109 fa fd ["_law_script"] (spV K (F_lw 63)) := by
  have e := hfa.symm.trans (PySem.W.mg_of X G a_law)
  cases e
  have bt : Bt mg := ⟨PySem.W.mg_none_of X G z_len, PySem.W.mg_none_of X G z_range, PySem.W.mg_none_of X G z_enumerate, PySem.W.mg_none_of X G z_zip, PySem.W.mg_none_of X G z_abs, PySem.W.mg_none_of X G z_max, PySem.W.mg_none_of X G z_min, PySem.W.mg_none_of X G z_int, PySem.W.mg_none_of X G z_bool, PySem.W.mg_none_of X G z_str, PySem.W.mg_none_of X G z_list, PySem.W.mg_none_of X G z_tuple, PySem.W.mg_none_of X G z_set, PySem.W.mg_none_of X G z_sum, PySem.W.mg_none_of X G z_all, PySem.W.mg_none_of X G z_any, PySem.W.mg_none_of X G z_sorted, PySem.W.mg_none_of X G z_isinstance, PySem.W.mg_none_of X G z_reversed, PySem.W.mg_none_of X G z_divmod, PySem.W.mg_none_of X G z_repr, PySem.W.mg_none_of X G z_dict⟩
  have g_MOST : ∃ t, mg "MOST" = some (.int 40 t) := ⟨_, PySem.W.mg_of X G y_MOST⟩
  have g_FIGURES : ∃ t, mg "FIGURES" = some (.str "0123456789" t) := ⟨_, PySem.W.mg_of X G y_FIGURES⟩
  have g_ONE : ∃ a vs, mg "ONE" = some (.ref a) ∧ KT K a vs ∧ ∀ H S Z, Rps K H S Z [.str "one"] vs := ⟨_, [.str "one"], PySem.W.mg_of X G y_ONE, ⟨_, _, _, ly_ONE, rfl, rfl, rfl, (show 1 ≤ sizeLine from sz), .cons ⟨_, rfl⟩ (.nil)⟩, fun H S Z => by simp [Rps, Rp]⟩
  have g_RUNS : ∃ a vs, mg "RUNS" = some (.ref a) ∧ KT K a vs ∧ ∀ H S Z, Rps K H S Z [.str "rise", .str "fall"] vs := ⟨_, [.str "rise", .str "fall"], PySem.W.mg_of X G y_RUNS, ⟨_, _, _, ly_RUNS, rfl, rfl, rfl, (show 2 ≤ sizeLine from sz), .cons ⟨_, rfl⟩ (.cons ⟨_, rfl⟩ (.nil))⟩, fun H S Z => by simp [Rps, Rp]⟩
  have g_LINKS : ∃ d, mg "LINKS" = some (.ref d) ∧ KTab K w d [("rise", " + "), ("fall", " - ")] := ⟨_, PySem.W.mg_of X G y_LINKS, ⟨_, _, kl_LINKS, kq_LINKS⟩, fun p hp => by
    simp only [List.mem_cons, List.mem_nil_iff, or_false] at hp
    rcases hp with rfl | rfl
    · exact ⟨_, ki_LINKS_0⟩
    · exact ⟨_, ki_LINKS_1⟩⟩
  refine ⟨PySem.W.fnOf "law" "law" (defArgs st_law) (defBody st_law) (defScope st_law) .none kV_law dc_law pm_law an_law cd_law ct_law, fun s v => .of_eq rfl, fun base _ _ => ?_⟩
  have C_p_is_whole : Cal l.prog w K mg base 1 "is_whole" ["thing"] F_p_is_whole := K55.k_p_is_whole bt  (fun_mk (st := st_p_is_whole) l_p_is_whole c_p_is_whole k_p_is_whole) (PySem.W.mg_of X G a_p_is_whole)
  have C_p_is_from : Cal l.prog w K mg base 2 "is_from" ["thing", "least", "most"] F_p_is_from := K55.k_p_is_from bt C_p_is_whole (fun_mk (st := st_p_is_from) l_p_is_from c_p_is_from k_p_is_from) (PySem.W.mg_of X G a_p_is_from)
  have C_p_is_row : Cal l.prog w K mg base 2 "is_row" ["thing"] F_p_is_row := K55.k_p_is_row bt C_p_is_whole g_MOST (fun_mk (st := st_p_is_row) l_p_is_row c_p_is_row k_p_is_row) (PySem.W.mg_of X G a_p_is_row)
  have C_p_closed_up : Cal l.prog w K mg base 1 "closed_up" ["numbers"] F_p_closed_up := K55.k_p_closed_up bt  (fun_mk (st := st_p_closed_up) l_p_closed_up c_p_closed_up k_p_closed_up) (PySem.W.mg_of X G a_p_closed_up)
  have C_p_are_places : Cal l.prog w K mg base 3 "are_places" ["row", "thing"] F_p_are_places := K55.k_p_are_places bt C_p_is_from (fun_mk (st := st_p_are_places) l_p_are_places c_p_are_places k_p_are_places) (PySem.W.mg_of X G a_p_are_places)
  have C_p_shape_at : Cal l.prog w K mg base 4 "shape_at" ["row", "places"] F_p_shape_at := K55.k_p_shape_at bt C_p_closed_up C_p_are_places (fun_mk (st := st_p_shape_at) l_p_shape_at c_p_shape_at k_p_shape_at) (PySem.W.mg_of X G a_p_shape_at)
  have C_p_whole_ends : Cal l.prog w K mg base 1 "whole_ends" ["row", "begin"] F_p_whole_ends := K55.k_p_whole_ends bt  (fun_mk (st := st_p_whole_ends) l_p_whole_ends c_p_whole_ends k_p_whole_ends) (PySem.W.mg_of X G a_p_whole_ends)
  have C_p_whole_stretches : Cal l.prog w K mg base 2 "whole_stretches" ["row"] F_p_whole_stretches := K55.k_p_whole_stretches bt C_p_whole_ends (fun_mk (st := st_p_whole_stretches) l_p_whole_stretches c_p_whole_stretches k_p_whole_stretches) (PySem.W.mg_of X G a_p_whole_stretches)
  have C_p_is_unbroken : Cal l.prog w K mg base 3 "is_unbroken" ["thing"] F_p_is_unbroken := K55.k_p_is_unbroken bt C_p_whole_stretches C_p_is_row (fun_mk (st := st_p_is_unbroken) l_p_is_unbroken c_p_is_unbroken k_p_is_unbroken) (PySem.W.mg_of X G a_p_is_unbroken)
  have C_p_has_parts : Cal l.prog w K mg base 1 "has_parts" ["thing", "many"] F_p_has_parts := K55.k_p_has_parts bt  (fun_mk (st := st_p_has_parts) l_p_has_parts c_p_has_parts k_p_has_parts) (PySem.W.mg_of X G a_p_has_parts)
  have C_p_is_node : Cal l.prog w K mg base 4 "is_node" ["thing"] F_p_is_node := K55.k_p_is_node bt C_p_has_parts C_p_is_unbroken g_RUNS (fun_mk (st := st_p_is_node) l_p_is_node c_p_is_node k_p_is_node) (PySem.W.mg_of X G a_p_is_node)
  have C_p_size_of : Cal l.prog w K mg base 106 "size_of" ["thing"] (F_p_size_of 101) := K55.k_p_size_of bt C_p_is_node g_ONE (fun_mk (st := st_p_size_of) l_p_size_of c_p_size_of k_p_size_of) (PySem.W.mg_of X G a_p_size_of)
  have C_p_is_tree : Cal l.prog w K mg base 107 "is_tree" ["thing"] F_p_is_tree := K55.k_p_is_tree bt C_p_size_of g_MOST (fun_mk (st := st_p_is_tree) l_p_is_tree c_p_is_tree k_p_is_tree) (PySem.W.mg_of X G a_p_is_tree)
  have C_p_rise_cuts : Cal l.prog w K mg base 1 "rise_cuts" ["row"] F_p_rise_cuts := K55.k_p_rise_cuts bt  (fun_mk (st := st_p_rise_cuts) l_p_rise_cuts c_p_rise_cuts k_p_rise_cuts) (PySem.W.mg_of X G a_p_rise_cuts)
  have C_p_block_cuts : Cal l.prog w K mg base 2 "block_cuts" ["row"] F_p_block_cuts := K55.k_p_block_cuts bt C_p_whole_ends (fun_mk (st := st_p_block_cuts) l_p_block_cuts c_p_block_cuts k_p_block_cuts) (PySem.W.mg_of X G a_p_block_cuts)
  have C_p_parted : Cal l.prog w K mg base 2 "parted" ["row", "cuts"] F_p_parted := K55.k_p_parted bt C_p_closed_up (fun_mk (st := st_p_parted) l_p_parted c_p_parted k_p_parted) (PySem.W.mg_of X G a_p_parted)
  have C_p_tree_of : Cal l.prog w K mg base 46 "tree_of" ["row"] (F_p_tree_of 41) := K55.k_p_tree_of bt C_p_parted C_p_shape_at C_p_block_cuts C_p_rise_cuts g_ONE (fun_mk (st := st_p_tree_of) l_p_tree_of c_p_tree_of k_p_tree_of) (PySem.W.mg_of X G a_p_tree_of)
  have C_p_must_be : Cal l.prog w K mg base 1 "must_be" ["truth"] F_p_must_be := K55.k_p_must_be bt  (fun_mk (st := st_p_must_be) l_p_must_be c_p_must_be k_p_must_be) (PySem.W.mg_of X G a_p_must_be)
  have C_p_show_row : Cal l.prog w K mg base 1 "show_row" ["row"] F_p_show_row := K55.k_p_show_row bt  (fun_mk (st := st_p_show_row) l_p_show_row c_p_show_row k_p_show_row) (PySem.W.mg_of X G a_p_show_row)
  have C_p_show_tree : Cal l.prog w K mg base 42 "show_tree" ["tree"] (F_p_show_tree 41) := K55.k_p_show_tree bt g_ONE g_LINKS (fun_mk (st := st_p_show_tree) l_p_show_tree c_p_show_tree k_p_show_tree) (PySem.W.mg_of X G a_p_show_tree)
  have C_p_numeral : Cal l.prog w K mg base 2 "numeral" ["word"] F_p_numeral := K55.k_p_numeral bt C_p_must_be g_FIGURES (fun_mk (st := st_p_numeral) l_p_numeral c_p_numeral k_p_numeral) (PySem.W.mg_of X G a_p_numeral)
  have C_p_row_read : Cal l.prog w K mg base 3 "row_read" ["text", "link"] F_p_row_read := K55.k_p_row_read bt C_p_is_row C_p_must_be C_p_numeral (fun_mk (st := st_p_row_read) l_p_row_read c_p_row_read k_p_row_read) (PySem.W.mg_of X G a_p_row_read)
  have C_p_read_row : Cal l.prog w K mg base 4 "read_row" ["thing"] F_p_read_row := K55.k_p_read_row bt C_p_row_read C_p_must_be (fun_mk (st := st_p_read_row) l_p_read_row c_p_read_row k_p_read_row) (PySem.W.mg_of X G a_p_read_row)
  have C_p_word_end : Cal l.prog w K mg base 1 "word_end" ["text", "at"] F_p_word_end := K55.k_p_word_end bt g_FIGURES (fun_mk (st := st_p_word_end) l_p_word_end c_p_word_end k_p_word_end) (PySem.W.mg_of X G a_p_word_end)
  have C_p_read_parts : Cal l.prog w K mg base 94 "read_parts" ["text", "at", "links", "deep"] (F_p_read_parts 90) := K55.k_p_read_parts bt C_p_must_be C_p_is_unbroken C_p_row_read C_p_word_end g_MOST g_ONE g_LINKS (fun_mk (st := st_p_read_parts) l_p_read_parts c_p_read_parts k_p_read_parts) (PySem.W.mg_of X G a_p_read_parts) (fun_mk (st := st_p_read_part) l_p_read_part c_p_read_part k_p_read_part) (PySem.W.mg_of X G a_p_read_part)
  have C_p_read_part : Cal l.prog w K mg base 94 "read_part" ["text", "at", "deep"] (F_p_read_part 90) := K55.k_p_read_part bt C_p_must_be C_p_is_unbroken C_p_row_read C_p_word_end g_MOST g_ONE g_LINKS (fun_mk (st := st_p_read_part) l_p_read_part c_p_read_part k_p_read_part) (PySem.W.mg_of X G a_p_read_part) (fun_mk (st := st_p_read_parts) l_p_read_parts c_p_read_parts k_p_read_parts) (PySem.W.mg_of X G a_p_read_parts)
  have C_p_read_tree : Cal l.prog w K mg base 108 "read_tree" ["thing"] F_p_read_tree := K55.k_p_read_tree bt C_p_is_tree C_p_must_be C_p_read_part (fun_mk (st := st_p_read_tree) l_p_read_tree c_p_read_tree k_p_read_tree) (PySem.W.mg_of X G a_p_read_tree)
  have C_l_bag : Cal l.prog w K mg base 1 "_law_bag" ["_law_script", "_law_at"] F_l_bag := K55.k_l_bag bt  (fun_mk (st := st_l_bag) l_l_bag c_l_bag k_l_bag) (PySem.W.mg_of X G a_l_bag)
  have C_l_take : Cal l.prog w K mg base 1 "_law_take" ["_law_bag_here", "_law_many"] F_l_take := K55.k_l_take bt  (fun_mk (st := st_l_take) l_l_take c_l_take k_l_take) (PySem.W.mg_of X G a_l_take)
  have C_l_row : Cal l.prog w K mg base 2 "_law_row" ["_law_bag_here", "_law_n"] F_l_row := K55.k_l_row bt C_l_take (fun_mk (st := st_l_row) l_l_row c_l_row k_l_row) (PySem.W.mg_of X G a_l_row)
  have C_l_blocked : Cal l.prog w K mg base 1 "_law_blocked" ["_law_row_here"] F_l_blocked := K55.k_l_blocked bt  (fun_mk (st := st_l_blocked) l_l_blocked c_l_blocked k_l_blocked) (PySem.W.mg_of X G a_l_blocked)
  have C_l_unbroken : Cal l.prog w K mg base 3 "_law_unbroken" ["_law_bag_here", "_law_most"] F_l_unbroken := K55.k_l_unbroken bt C_l_blocked C_l_take C_l_row (fun_mk (st := st_l_unbroken) l_l_unbroken c_l_unbroken k_l_unbroken) (PySem.W.mg_of X G a_l_unbroken)
  have C_l_tree : Cal l.prog w K mg base 45 "_law_tree" ["_law_bag_here", "_law_many", "_law_above"] (F_l_tree 41) := K55.k_l_tree bt C_l_take C_l_unbroken (fun_mk (st := st_l_tree) l_l_tree c_l_tree k_l_tree) (PySem.W.mg_of X G a_l_tree)
  have C_l_greater : Cal l.prog w K mg base 2 "_law_greater" ["_law_bag_here", "_law_row_here"] F_l_greater := K55.k_l_greater bt C_l_take C_l_blocked (fun_mk (st := st_l_greater) l_l_greater c_l_greater k_l_greater) (PySem.W.mg_of X G a_l_greater)
  have C_l_any_tree : Cal l.prog w K mg base 46 "_law_any_tree" ["_law_bag_here", "_law_many"] F_l_any_tree := K55.k_l_any_tree bt C_l_take C_l_tree C_l_unbroken C_l_greater (fun_mk (st := st_l_any_tree) l_l_any_tree c_l_any_tree k_l_any_tree) (PySem.W.mg_of X G a_l_any_tree)
  have C_l_row_text : Cal l.prog w K mg base 1 "_law_row_text" ["_law_row_here"] F_l_row_text := K55.k_l_row_text bt  (fun_mk (st := st_l_row_text) l_l_row_text c_l_row_text k_l_row_text) (PySem.W.mg_of X G a_l_row_text)
  have C_l_tree_text : Cal l.prog w K mg base 42 "_law_tree_text" ["_law_tree_here"] (F_l_tree_text 41) := K55.k_l_tree_text bt  (fun_mk (st := st_l_tree_text) l_l_tree_text c_l_tree_text k_l_tree_text) (PySem.W.mg_of X G a_l_tree_text)
  have C_l_whole : Cal l.prog w K mg base 1 "_law_whole" ["_law_thing"] F_l_whole := K55.k_l_whole bt  (fun_mk (st := st_l_whole) l_l_whole c_l_whole k_l_whole) (PySem.W.mg_of X G a_l_whole)
  have C_l_is_row : Cal l.prog w K mg base 2 "_law_is_row" ["_law_thing"] F_l_is_row := K55.k_l_is_row bt C_l_whole (fun_mk (st := st_l_is_row) l_l_is_row c_l_is_row k_l_is_row) (PySem.W.mg_of X G a_l_is_row)
  have C_l_is_made : Cal l.prog w K mg base 3 "_law_is_made" ["_law_thing"] F_l_is_made := K55.k_l_is_made bt C_l_is_row (fun_mk (st := st_l_is_made) l_l_is_made c_l_is_made k_l_is_made) (PySem.W.mg_of X G a_l_is_made)
  exact K55.o_law bt C_p_show_tree C_l_tree_text C_p_show_row C_l_row_text C_l_is_made C_l_is_row C_p_read_tree C_p_read_row C_p_tree_of C_l_take C_l_any_tree C_l_row C_l_bag (fun_mk (st := st_law) l_law c_law k_law)
end K55
open PySem PySem.W PyProof.Rows
set_option maxHeartbeats 0 in
theorem PySem.Challenge.cw_knotlessrows_k55_rows_and_trees_read_holds : PySem.Challenge.rw_knotlessrows_k55_rows_and_trees_read.Holds := by
  w_on; o_law; k_head; (case hw => w_witness2)
  k_fill
  refine L2.walk_of (l := PySem.Challenge.rw_knotlessrows_k55_rows_and_trees_read) (n := 63) (k := 109) (x := "_law_script") (CX := fun _ => L2.CX0) (sp := fun w => VL.spV _ (VL.F_lw 63)) rfl (by decide) rfl ⟨rfl, by decide, by decide⟩ (fun w h Y => PySem.W.kIn_of Y) ?F (fun _ _ a ns hl _ hS => VL.lw_start hl hS) (fun _ _ _ _ _ h => h)
  case F =>
    intro w mg fa h KX G hmg
    refine' K55.all_mk KX G hmg ?a_p_is_whole ?l_p_is_whole ?c_p_is_whole ?k_p_is_whole ?a_p_is_from ?l_p_is_from ?c_p_is_from ?k_p_is_from ?a_p_is_row ?l_p_is_row ?c_p_is_row ?k_p_is_row ?a_p_closed_up ?l_p_closed_up ?c_p_closed_up ?k_p_closed_up ?a_p_are_places ?l_p_are_places ?c_p_are_places ?k_p_are_places ?a_p_shape_at ?l_p_shape_at ?c_p_shape_at ?k_p_shape_at ?a_p_whole_ends ?l_p_whole_ends ?c_p_whole_ends ?k_p_whole_ends ?a_p_whole_stretches ?l_p_whole_stretches ?c_p_whole_stretches ?k_p_whole_stretches ?a_p_is_unbroken ?l_p_is_unbroken ?c_p_is_unbroken ?k_p_is_unbroken ?a_p_has_parts ?l_p_has_parts ?c_p_has_parts ?k_p_has_parts ?a_p_is_node ?l_p_is_node ?c_p_is_node ?k_p_is_node ?a_p_size_of ?l_p_size_of ?c_p_size_of ?k_p_size_of ?a_p_is_tree ?l_p_is_tree ?c_p_is_tree ?k_p_is_tree ?a_p_rise_cuts ?l_p_rise_cuts ?c_p_rise_cuts ?k_p_rise_cuts ?a_p_block_cuts ?l_p_block_cuts ?c_p_block_cuts ?k_p_block_cuts ?a_p_parted ?l_p_parted ?c_p_parted ?k_p_parted ?a_p_tree_of ?l_p_tree_of ?c_p_tree_of ?k_p_tree_of ?a_p_must_be ?l_p_must_be ?c_p_must_be ?k_p_must_be ?a_p_show_row ?l_p_show_row ?c_p_show_row ?k_p_show_row ?a_p_show_tree ?l_p_show_tree ?c_p_show_tree ?k_p_show_tree ?a_p_numeral ?l_p_numeral ?c_p_numeral ?k_p_numeral ?a_p_row_read ?l_p_row_read ?c_p_row_read ?k_p_row_read ?a_p_read_row ?l_p_read_row ?c_p_read_row ?k_p_read_row ?a_p_word_end ?l_p_word_end ?c_p_word_end ?k_p_word_end ?a_p_read_parts ?l_p_read_parts ?c_p_read_parts ?k_p_read_parts ?a_p_read_part ?l_p_read_part ?c_p_read_part ?k_p_read_part ?a_p_read_tree ?l_p_read_tree ?c_p_read_tree ?k_p_read_tree ?a_l_bag ?l_l_bag ?c_l_bag ?k_l_bag ?a_l_take ?l_l_take ?c_l_take ?k_l_take ?a_l_row ?l_l_row ?c_l_row ?k_l_row ?a_l_blocked ?l_l_blocked ?c_l_blocked ?k_l_blocked ?a_l_unbroken ?l_l_unbroken ?c_l_unbroken ?k_l_unbroken ?a_l_tree ?l_l_tree ?c_l_tree ?k_l_tree ?a_l_greater ?l_l_greater ?c_l_greater ?k_l_greater ?a_l_any_tree ?l_l_any_tree ?c_l_any_tree ?k_l_any_tree ?a_l_row_text ?l_l_row_text ?c_l_row_text ?k_l_row_text ?a_l_tree_text ?l_l_tree_text ?c_l_tree_text ?k_l_tree_text ?a_l_whole ?l_l_whole ?c_l_whole ?k_l_whole ?a_l_is_row ?l_l_is_row ?c_l_is_row ?k_l_is_row ?a_l_is_made ?l_l_is_made ?c_l_is_made ?k_l_is_made ?a_law ?l_law ?c_law ?k_law ?y_MOST ?y_FIGURES ?y_ONE ?ly_ONE ?y_RUNS ?ly_RUNS ?y_LINKS ?kl_LINKS ?kq_LINKS ?ki_LINKS_0 ?ki_LINKS_1 ?z_len ?z_range ?z_enumerate ?z_zip ?z_abs ?z_max ?z_min ?z_int ?z_bool ?z_str ?z_list ?z_tuple ?z_set ?z_sum ?z_all ?z_any ?z_sorted ?z_isinstance ?z_reversed ?z_divmod ?z_repr ?z_dict
    (case a_p_is_whole => k_is); (case l_p_is_whole => k_is); (case c_p_is_whole => k_is); (case k_p_is_whole => k_is); (case a_p_is_from => k_is); (case l_p_is_from => k_is); (case c_p_is_from => k_is); (case k_p_is_from => k_is); (case a_p_is_row => k_is); (case l_p_is_row => k_is); (case c_p_is_row => k_is); (case k_p_is_row => k_is); (case a_p_closed_up => k_is); (case l_p_closed_up => k_is); (case c_p_closed_up => k_is); (case k_p_closed_up => k_is); (case a_p_are_places => k_is); (case l_p_are_places => k_is); (case c_p_are_places => k_is); (case k_p_are_places => k_is); (case a_p_shape_at => k_is); (case l_p_shape_at => k_is); (case c_p_shape_at => k_is); (case k_p_shape_at => k_is); (case a_p_whole_ends => k_is); (case l_p_whole_ends => k_is); (case c_p_whole_ends => k_is); (case k_p_whole_ends => k_is); (case a_p_whole_stretches => k_is); (case l_p_whole_stretches => k_is); (case c_p_whole_stretches => k_is); (case k_p_whole_stretches => k_is); (case a_p_is_unbroken => k_is); (case l_p_is_unbroken => k_is); (case c_p_is_unbroken => k_is); (case k_p_is_unbroken => k_is); (case a_p_has_parts => k_is); (case l_p_has_parts => k_is); (case c_p_has_parts => k_is); (case k_p_has_parts => k_is); (case a_p_is_node => k_is); (case l_p_is_node => k_is); (case c_p_is_node => k_is); (case k_p_is_node => k_is); (case a_p_size_of => k_is); (case l_p_size_of => k_is); (case c_p_size_of => k_is); (case k_p_size_of => k_is); (case a_p_is_tree => k_is); (case l_p_is_tree => k_is); (case c_p_is_tree => k_is); (case k_p_is_tree => k_is); (case a_p_rise_cuts => k_is); (case l_p_rise_cuts => k_is); (case c_p_rise_cuts => k_is); (case k_p_rise_cuts => k_is); (case a_p_block_cuts => k_is); (case l_p_block_cuts => k_is); (case c_p_block_cuts => k_is); (case k_p_block_cuts => k_is); (case a_p_parted => k_is); (case l_p_parted => k_is); (case c_p_parted => k_is); (case k_p_parted => k_is); (case a_p_tree_of => k_is); (case l_p_tree_of => k_is); (case c_p_tree_of => k_is); (case k_p_tree_of => k_is); (case a_p_must_be => k_is); (case l_p_must_be => k_is); (case c_p_must_be => k_is); (case k_p_must_be => k_is); (case a_p_show_row => k_is); (case l_p_show_row => k_is); (case c_p_show_row => k_is); (case k_p_show_row => k_is); (case a_p_show_tree => k_is); (case l_p_show_tree => k_is); (case c_p_show_tree => k_is); (case k_p_show_tree => k_is); (case a_p_numeral => k_is); (case l_p_numeral => k_is); (case c_p_numeral => k_is); (case k_p_numeral => k_is); (case a_p_row_read => k_is); (case l_p_row_read => k_is); (case c_p_row_read => k_is); (case k_p_row_read => k_is); (case a_p_read_row => k_is); (case l_p_read_row => k_is); (case c_p_read_row => k_is); (case k_p_read_row => k_is); (case a_p_word_end => k_is); (case l_p_word_end => k_is); (case c_p_word_end => k_is); (case k_p_word_end => k_is); (case a_p_read_parts => k_is); (case l_p_read_parts => k_is); (case c_p_read_parts => k_is); (case k_p_read_parts => k_is); (case a_p_read_part => k_is); (case l_p_read_part => k_is); (case c_p_read_part => k_is); (case k_p_read_part => k_is); (case a_p_read_tree => k_is); (case l_p_read_tree => k_is); (case c_p_read_tree => k_is); (case k_p_read_tree => k_is); (case a_l_bag => k_is); (case l_l_bag => k_is); (case c_l_bag => k_is); (case k_l_bag => k_is); (case a_l_take => k_is); (case l_l_take => k_is); (case c_l_take => k_is); (case k_l_take => k_is); (case a_l_row => k_is); (case l_l_row => k_is); (case c_l_row => k_is); (case k_l_row => k_is); (case a_l_blocked => k_is); (case l_l_blocked => k_is); (case c_l_blocked => k_is); (case k_l_blocked => k_is); (case a_l_unbroken => k_is); (case l_l_unbroken => k_is); (case c_l_unbroken => k_is); (case k_l_unbroken => k_is); (case a_l_tree => k_is); (case l_l_tree => k_is); (case c_l_tree => k_is); (case k_l_tree => k_is); (case a_l_greater => k_is); (case l_l_greater => k_is); (case c_l_greater => k_is); (case k_l_greater => k_is); (case a_l_any_tree => k_is); (case l_l_any_tree => k_is); (case c_l_any_tree => k_is); (case k_l_any_tree => k_is); (case a_l_row_text => k_is); (case l_l_row_text => k_is); (case c_l_row_text => k_is); (case k_l_row_text => k_is); (case a_l_tree_text => k_is); (case l_l_tree_text => k_is); (case c_l_tree_text => k_is); (case k_l_tree_text => k_is); (case a_l_whole => k_is); (case l_l_whole => k_is); (case c_l_whole => k_is); (case k_l_whole => k_is); (case a_l_is_row => k_is); (case l_l_is_row => k_is); (case c_l_is_row => k_is); (case k_l_is_row => k_is); (case a_l_is_made => k_is); (case l_l_is_made => k_is); (case c_l_is_made => k_is); (case k_l_is_made => k_is); (case a_law => k_is); (case l_law => k_is); (case c_law => k_is); (case k_law => k_is); (case y_MOST => k_is); (case y_FIGURES => k_is); (case y_ONE => k_is); (case ly_ONE => k_is); (case y_RUNS => k_is); (case ly_RUNS => k_is); (case y_LINKS => k_is); (case kl_LINKS => k_is); (case kq_LINKS => exact ⟨⟨_, _, rfl, rfl⟩, ⟨⟨_, _, rfl, rfl⟩, trivial⟩⟩); (case ki_LINKS_0 => k_is); (case ki_LINKS_1 => k_is); (case z_len => k_is); (case z_range => k_is); (case z_enumerate => k_is); (case z_zip => k_is); (case z_abs => k_is); (case z_max => k_is); (case z_min => k_is); (case z_int => k_is); (case z_bool => k_is); (case z_str => k_is); (case z_list => k_is); (case z_tuple => k_is); (case z_set => k_is); (case z_sum => k_is); (case z_all => k_is); (case z_any => k_is); (case z_sorted => k_is); (case z_isinstance => k_is); (case z_reversed => k_is); (case z_divmod => k_is); (case z_repr => k_is); (case z_dict => k_is)
